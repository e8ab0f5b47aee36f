import PyProof.Rows.All
import Wide.All
import OpenK.AllK
import Wide.FinOn
import KE.KStateDown
import HandS.ForMost
import HandS.ForExc
import HandS.IsInst
import HandS.Zip
import HandS.Defaults
import HandS.MakeKw
import HandS.MakeKwOnly
import HandS.Star
import HandS.ClsMeth
import HandS.Property
import HandS.OwnEq
import HandS.FStr
import HandS.Flow
import HandS.TupMul
import HandS.TupAny
import HandS.Strs
import HandS.WideBits
import HandS.Wide
import HandS.Walk
import HandS.Style
import HandS.SetTxt0
import KE.GoesEnum
import OpenK.KMeth
import OpenK.KOps
import KE.KFmtOwn
import PyProof.Rows.StrStep
import HandS.Head0
import HandS.Head1
import HandS.Head2
import HandS.HeadEnd
import HandS.HeadHook1
import HandS.HeadHook2
import HandS.HeadHook3
import HandS.HeadHook4
import PySem.Challenge.RW_dealtpowers_k07_schemas_told
set_option Elab.async false
set_option linter.all false
set_option maxRecDepth 100000
set_option maxHeartbeats 0
set_option exponentiation.threshold 256
namespace Z
open PySem PySem.Spec PyProof.Rows L2

/-! ## 1. judgements by the best reading -/
def HE (X : Cx) (e : Expr) (σ : L2.St) (H : Hp) (Q : VK) : Prop := ∀ (pins : List (Addr × Obj)) (s : Shared), Inv X pins σ H s → wpAny (model X.prog X.w) X.A (eval e X.env) (EP X pins σ Q) X.xe s
def HT (X : Cx) (e : Expr) (σ : L2.St) (H : Hp) (Q : Bool → Hp → Prop) : Prop := ∀ (pins : List (Addr × Obj)) (s : Shared), Inv X pins σ H s → wpAny (model X.prog X.w) X.A (isTrue e X.env (eval e X.env)) (TP X pins σ Q) X.xe s
def HW (X : Cx) (e : Expr) (σ : L2.St) (H : Hp) (Q : Bool → Hp → Prop) : Prop := ∀ (whole : Sem Value) (pins : List (Addr × Obj)) (s : Shared), Inv X pins σ H s → wpAny (model X.prog X.w) X.A (isTrue e X.env whole) (TP X pins σ Q) X.xe s
def HA (X : Cx) (es : List Expr) (σ : L2.St) (H : Hp) (Q : List V → Hp → Prop) : Prop := ∀ (pos : Pos) (pins : List (Addr × Obj)) (s : Shared), Inv X pins σ H s → wpAny (model X.prog X.w) X.A (spliced (backTo pos (starEach es X.env))) (AP X pins σ Q) X.xe s
def HS (X : Cx) (D : Ends) (st : List Stmt) (σ : L2.St) (H : Hp) : Prop := ∀ (pins : List (Addr × Obj)) (s : Shared), Inv X pins σ H s → wpAny (model X.prog X.w) X.A (execs st X.env) (SP X pins D) X.xe s
def HG (X : Cx) (tg : Expr) (v : V) (σ : L2.St) (H : Hp) (Q : L2.St → Hp → Prop) : Prop := ∀ (pins : List (Addr × Obj)) (s : Shared) (u : Value), Inv X pins σ H s → RelV v u →
    wpAny (model X.prog X.w) X.A (assign tg X.env u) (fun _ s' => ∃ σ' H', Inv X pins σ' H' s' ∧ Q σ' H') X.xe s
def HI (X : Cx) (tg iter : Expr) (σ : L2.St) (H : Hp) (R : It → Hp → Prop) : Prop := ∀ (pins : List (Addr × Obj)) (s : Shared), Inv X pins σ H s →
    wpAny (model X.prog X.w) X.A (eval iter X.env) (fun v s1 => wpAny (model X.prog X.w) X.A (pyIter v) (PIE X pins σ tg R) X.xe s1) X.xe s
def bE (X : Cx) (e : Expr) : TE := fun σ H Q => HE X e σ H Q
def bT (X : Cx) (e : Expr) : TT := fun σ H Q => HT X e σ H Q
def bW (X : Cx) (e : Expr) : TT := fun σ H Q => HW X e σ H Q
def bA (X : Cx) (es : List Expr) : TA := fun σ H Q => HA X es σ H Q
def bS (X : Cx) (st : List Stmt) : TS := fun D σ H => HS X D st σ H
def bG (X : Cx) (tg : Expr) : TG := fun v σ H Q => HG X tg v σ H Q
def bI (X : Cx) (tg iter : Expr) : TI := fun σ H R => HI X tg iter σ H R
section
variable {X : Cx} {e : Expr} {σ : L2.St} {H : Hp}
theorem peb : PE X e (bE X e) := ⟨fun pins s _ _ _ I h => h pins s I⟩
theorem ptb : PT X e (bT X e) := ⟨fun pins s _ _ _ I h => h pins s I⟩
theorem pwb : PW X e (bW X e) := ⟨fun whole pins s _ _ _ I h => h whole pins s I⟩
theorem pab {es : List Expr} : PA X es (bA X es) := ⟨fun pos pins s _ _ _ I h => h pos pins s I⟩
theorem psb {st : List Stmt} : PSs X st (bS X st) := ⟨fun pins s _ _ _ I h => h pins s I⟩
theorem pgb {tg : Expr} : PG X tg (bG X tg) := ⟨fun pins s _ _ _ u _ I r h => h pins s u I r⟩
theorem pib {tg iter : Expr} : PI X tg iter (bI X tg iter) := ⟨fun pins s _ _ _ I h => h pins s I⟩
theorem he_of {t : TE} {Q : VK} (h : PE X e t) (q : t σ H Q) : HE X e σ H Q := fun pins s I => h.run pins s σ H Q I q
theorem ht_of {t : TT} {Q : Bool → Hp → Prop} (h : PT X e t) (q : t σ H Q) : HT X e σ H Q := fun pins s I => h.run pins s σ H Q I q
theorem hw_of {t : TT} {Q : Bool → Hp → Prop} (h : PW X e t) (q : t σ H Q) : HW X e σ H Q := fun whole pins s I => h.run whole pins s σ H Q I q
theorem ha_of {es : List Expr} {t : TA} {Q : List V → Hp → Prop} (h : PA X es t) (q : t σ H Q) : HA X es σ H Q := fun pos pins s I => h.run pos pins s σ H Q I q
theorem hs_of {st : List Stmt} {t : TS} {D : Ends} (h : PSs X st t) (q : t D σ H) : HS X D st σ H := fun pins s I => h.run pins s σ H D I q
theorem hg_of {tg : Expr} {t : TG} {v : V} {Q : L2.St → Hp → Prop} (h : PG X tg t) (q : t v σ H Q) : HG X tg v σ H Q := fun pins s u I r => h.run pins s σ H v u Q I r q
theorem hi_of {tg iter : Expr} {t : TI} {R : It → Hp → Prop} (h : PI X tg iter t) (q : t σ H R) : HI X tg iter σ H R := fun pins s I => h.run pins s σ H R I q
theorem he_mono {Q Q' : VK} (h : HE X e σ H Q) (hq : ∀ v H', Q v H' → Q' v H') : HE X e σ H Q' := fun pins s I => thn (h pins s I) fun _ _ ⟨v, H', I', r, q⟩ => ⟨v, H', I', r, hq v H' q⟩
theorem ht_mono {Q Q' : Bool → Hp → Prop} (h : HT X e σ H Q) (hq : ∀ v H', Q v H' → Q' v H') : HT X e σ H Q' := fun pins s I => thn (h pins s I) fun _ _ ⟨H', I', q⟩ => ⟨H', I', hq _ H' q⟩
theorem ha_mono {es : List Expr} {Q Q' : List V → Hp → Prop} (h : HA X es σ H Q) (hq : ∀ v H', Q v H' → Q' v H') : HA X es σ H Q' := fun pos pins s I => thn (h pos pins s I) fun _ _ ⟨v, H', I', r, q⟩ => ⟨v, H', I', r, hq v H' q⟩
theorem ht_of_hw {Q : Bool → Hp → Prop} (h : HW X e σ H Q) : HT X e σ H Q := fun pins s I => h _ pins s I
end

/-! ## 2. what stays under growth -/
class Mn (P : V → Hp → Prop) : Prop where
  up : ∀ {v : V} {H H' : Hp}, Same H H' → P v H → P v H'
theorem Same.new {H : Hp} {p : Addr} {o : HO} (h : H p = none) : Same H (upd H p o) := fun a u e => by
  rw [upd_ne (ne_of_none e h)]
  exact e
/-- an object that H does not know may change -/
theorem Same.mut {H H' : Hp} {p : Addr} {o : HO} (e : Same H H') (h : H p = none) : Same H (upd H' p o) := fun a u ha => by
  rw [upd_ne (ne_of_none ha h)]
  exact e a u ha
theorem same_rd {H H' : Hp} {a : Addr} {u : HO} (e : Same H H') (h : Rd H a u) : Rd H' a u := by
  rcases h with h | ⟨o, h⟩
  · exact Or.inl (e a _ h)
  · exact Or.inr ⟨o, e a _ h⟩
theorem sql_up {K : PySem.W.Frag} {H H' : Hp} {a : Addr} {xs : List V} (e : Same H H') (h : SqL K H a xs) : SqL K H' a xs := by
  rcases h with h | h
  · exact Or.inl (same_rd e h)
  · exact Or.inr h
theorem sqt_up {K : PySem.W.Frag} {H H' : Hp} {a : Addr} {xs : List V} (e : Same H H') (h : SqT K H a xs) : SqT K H' a xs := by
  rcases h with h | h
  · exact Or.inl (same_rd e h)
  · exact Or.inr h
theorem sql_of {K : PySem.W.Frag} {H : Hp} {a : Addr} {xs : List V} (h : H a = some (.lst xs)) : SqL K H a xs := Or.inl (Or.inl h)
theorem sqt_of {K : PySem.W.Frag} {H : Hp} {a : Addr} {xs : List V} (h : H a = some (.tup xs)) : SqT K H a xs := Or.inl (Or.inl h)

/-! ## 3. data -/
/-- a value that is data: None, bools, ints, texts, lists that are tracked, tuples -/
inductive Dt (K : PySem.W.Frag) : PyData → V → Hp → Prop
  | non {H : Hp} : Dt K .none .non H
  | bl {H : Hp} (b : Bool) : Dt K (.bool b) (.bl b) H
  | int {H : Hp} (i : Int) : Dt K (.int i) (.int i) H
  | str {H : Hp} (x : Str) : Dt K (.str x) (.str x) H
  | lst {H : Hp} {a : Addr} {xs : List V} {ds : List PyData} : H a = some (.lst xs) → xs.length = ds.length → xs.length ≤ sizeLine → (∀ (i : Nat) (x : V) (d : PyData), xs[i]? = some x → ds[i]? = some d → Dt K d x H) → Dt K (.list ds) (.ref a) H
  | tup {H : Hp} {a : Addr} {xs : List V} {ds : List PyData} : SqT K H a xs → xs.length = ds.length → xs.length ≤ sizeLine → (∀ (i : Nat) (x : V) (d : PyData), xs[i]? = some x → ds[i]? = some d → Dt K d x H) → Dt K (.tuple ds) (.ref a) H
theorem Dt.up {K : PySem.W.Frag} {d : PyData} {v : V} {H H' : Hp} (e : Same H H') (h : Dt K d v H) : Dt K d v H' := by
  induction h with
  | non => exact .non
  | bl b => exact .bl b
  | int i => exact .int i
  | str x => exact .str x
  | lst h l z _ ih => exact .lst (e _ _ h) l z fun i x d hx hd => ih i x d hx hd e
  | tup h l z _ ih => exact .tup (sqt_up e h) l z fun i x d hx hd => ih i x d hx hd e
instance {K : PySem.W.Frag} {d : PyData} : Mn (Dt K d) := ⟨fun e h => h.up e⟩
/-- the values of a sequence's items -/
def Dts (K : PySem.W.Frag) (ds : List PyData) (xs : List V) (H : Hp) : Prop := xs.length = ds.length ∧ ∀ (i : Nat) (x : V) (d : PyData), xs[i]? = some x → ds[i]? = some d → Dt K d x H
theorem Dts.up {K : PySem.W.Frag} {ds : List PyData} {xs : List V} {H H' : Hp} (e : Same H H') (h : Dts K ds xs H) : Dts K ds xs H' := ⟨h.1, fun i x d hx hd => (h.2 i x d hx hd).up e⟩
theorem Dts.nil {K : PySem.W.Frag} {H : Hp} : Dts K [] [] H := ⟨rfl, fun i x d hx _ => by simp at hx⟩
theorem Dts.cons {K : PySem.W.Frag} {d : PyData} {ds : List PyData} {x : V} {xs : List V} {H : Hp} (h : Dt K d x H) (r : Dts K ds xs H) : Dts K (d :: ds) (x :: xs) H := by
  refine ⟨by simp [r.1], fun i y e hy he => ?_⟩
  cases i with
  | zero => simp at hy he; subst hy; subst he; exact h
  | succ i => exact r.2 i y e (by simpa using hy) (by simpa using he)
theorem Dts.get {K : PySem.W.Frag} {ds : List PyData} {xs : List V} {H : Hp} (h : Dts K ds xs H) {i : Nat} {d : PyData} (e : ds[i]? = some d) : ∃ x, xs[i]? = some x ∧ Dt K d x H := by
  have hi : i < xs.length := by rw [h.1]; exact (List.getElem?_eq_some_iff.mp e).1
  exact ⟨xs[i], List.getElem?_eq_getElem hi, h.2 i _ d (List.getElem?_eq_getElem hi) e⟩
theorem Dts.append {K : PySem.W.Frag} {ds es : List PyData} {xs ys : List V} {H : Hp} (h : Dts K ds xs H) (g : Dts K es ys H) : Dts K (ds ++ es) (xs ++ ys) H := by
  refine ⟨by simp [h.1, g.1], fun i y e hy he => ?_⟩
  by_cases hi : i < xs.length
  · rw [List.getElem?_append_left hi] at hy
    rw [List.getElem?_append_left (by rw [← h.1]; exact hi)] at he
    exact h.2 i y e hy he
  · rw [List.getElem?_append_right (by omega)] at hy
    rw [List.getElem?_append_right (by rw [← h.1]; omega), ← h.1] at he
    exact g.2 _ y e hy he
theorem Dts.snoc {K : PySem.W.Frag} {ds : List PyData} {xs : List V} {H : Hp} {d : PyData} {x : V} (h : Dts K ds xs H) (g : Dt K d x H) : Dts K (ds ++ [d]) (xs ++ [x]) H := h.append (Dts.cons g .nil)
theorem Dts.dp {K : PySem.W.Frag} {H : Hp} : ∀ {ds : List PyData} {xs : List V}, xs.length = ds.length → (∀ (i : Nat) (x : V) (d : PyData), xs[i]? = some x → ds[i]? = some d → Dp K H x d) → DpAll K H xs ds
  | [], [], _, _ => .nil
  | [], _ :: _, h, _ => by simp at h
  | _ :: _, [], h, _ => by simp at h
  | d :: ds, x :: xs, h, f => .cons (f 0 x d rfl rfl) (Dts.dp (by simpa using h) fun i y e hy he => f (i + 1) y e (by simpa using hy) (by simpa using he))
theorem Dt.dp {K : PySem.W.Frag} {d : PyData} {v : V} {H : Hp} (h : Dt K d v H) : Dp K H v d := by
  induction h with
  | non => exact .non
  | bl b => exact .bl b
  | int i => exact .int i
  | str x => exact .str x
  | lst h l z _ ih => exact .lst (sql_of h) (Dts.dp l fun i x d hx hd => ih i x d hx hd)
  | tup h l z _ ih => exact .tup h (Dts.dp l fun i x d hx hd => ih i x d hx hd)
theorem Dt.int_inv {K : PySem.W.Frag} {i : Int} {v : V} {H : Hp} (h : Dt K (.int i) v H) : v = .int i := by cases h; rfl
theorem Dt.bl_inv {K : PySem.W.Frag} {b : Bool} {v : V} {H : Hp} (h : Dt K (.bool b) v H) : v = .bl b := by cases h; rfl
theorem Dt.str_inv {K : PySem.W.Frag} {x : Str} {v : V} {H : Hp} (h : Dt K (.str x) v H) : v = .str x := by cases h; rfl
theorem Dt.non_inv {K : PySem.W.Frag} {v : V} {H : Hp} (h : Dt K .none v H) : v = .non := by cases h; rfl
theorem Dt.lst_inv {K : PySem.W.Frag} {ds : List PyData} {v : V} {H : Hp} (h : Dt K (.list ds) v H) : ∃ a xs, v = .ref a ∧ H a = some (.lst xs) ∧ Dts K ds xs H ∧ xs.length ≤ sizeLine := by
  cases h with
  | lst h l z f => exact ⟨_, _, rfl, h, ⟨l, f⟩, z⟩
theorem Dt.tup_inv {K : PySem.W.Frag} {ds : List PyData} {v : V} {H : Hp} (h : Dt K (.tuple ds) v H) : ∃ a xs, v = .ref a ∧ SqT K H a xs ∧ Dts K ds xs H ∧ xs.length ≤ sizeLine := by
  cases h with
  | tup h l z f => exact ⟨_, _, rfl, h, ⟨l, f⟩, z⟩
theorem Dt.lst_mk {K : PySem.W.Frag} {ds : List PyData} {a : Addr} {xs : List V} {H : Hp} (h : H a = some (.lst xs)) (g : Dts K ds xs H) (z : xs.length ≤ sizeLine) : Dt K (.list ds) (.ref a) H := .lst h g.1 z g.2
theorem Dt.tup_mk {K : PySem.W.Frag} {ds : List PyData} {a : Addr} {xs : List V} {H : Hp} (h : SqT K H a xs) (g : Dts K ds xs H) (z : xs.length ≤ sizeLine) : Dt K (.tuple ds) (.ref a) H := .tup h g.1 z g.2

/-! ## 4. growth: S what is known to stay, H the whole -/
structure Gr (S H S' H' : Hp) : Prop where
  st : Same S S'
  sub : Same S' H'
  hh : Same H H'
  old : ∀ a o, H a = some o → S' a = S a
theorem Gr.refl {S H : Hp} (s : Same S H) : Gr S H S H := ⟨Same.refl S, s, Same.refl H, fun _ _ _ => rfl⟩
theorem Gr.trans {S H S1 H1 S2 H2 : Hp} (a : Gr S H S1 H1) (b : Gr S1 H1 S2 H2) : Gr S H S2 H2 :=
  ⟨a.st.trans b.st, b.sub, a.hh.trans b.hh, fun x o h => (b.old x o (a.hh x o h)).trans (a.old x o h)⟩
theorem Gr.new {S H : Hp} {p : Addr} {o : HO} (s : Same S H) (h : H p = none) : Gr S H (upd S p o) (upd H p o) := by
  refine ⟨Same.new (s.free h), fun a u e => ?_, Same.new h, fun a u e => upd_ne (ne_of_none e h)⟩
  by_cases ha : a = p
  · subst ha; rw [upd_same] at e ⊢; exact e
  · rw [upd_ne ha] at e ⊢; exact s a u e
/-- S grown by T -/
def uniS (S T : Hp) : Hp := fun a => match S a with
  | some o => some o
  | none => T a
theorem uni_l {S T : Hp} : Same S (uniS S T) := fun a o h => by unfold uniS; rw [h]
/-- from a smaller S to a greater one -/
theorem Gr.uni {S T H S' H' : Hp} (st : Same S T) (th : Same T H) (g : Gr S H S' H') : Gr T H (uniS S' T) H' := by
  have key : ∀ a o, H a = some o → uniS S' T a = T a := fun a o h => by
    have e := g.old a o h
    unfold uniS
    rw [e]
    cases q : S a with
    | none => rfl
    | some u => rw [st a u q]
  refine ⟨fun a o h => (key a o (th a o h)).trans h, fun a o h => ?_, g.hh, key⟩
  unfold uniS at h
  cases q : S' a with
  | some u => rw [q] at h; cases h; exact g.sub a _ q
  | none => rw [q] at h; exact g.hh a o (th a o h)

/-! ## 5. pure evaluation: e gives a P, and all that stood stands -/
def EE (X : Cx) (σ : L2.St) (S : Hp) (e : Expr) (P : V → Hp → Prop) : Prop := ∀ H, Same S H → ∀ Q : VK, (∀ v S' H', Gr S H S' H' → P v S' → Q v H') → HE X e σ H Q
def ET (X : Cx) (σ : L2.St) (S : Hp) (e : Expr) (b : Bool) : Prop := ∀ H, Same S H → ∀ Q : Bool → Hp → Prop, (∀ S' H', Gr S H S' H' → Q b H') → HT X e σ H Q
def EW (X : Cx) (σ : L2.St) (S : Hp) (e : Expr) (b : Bool) : Prop := ∀ H, Same S H → ∀ Q : Bool → Hp → Prop, (∀ S' H', Gr S H S' H' → Q b H') → HW X e σ H Q
/-- the values vs have the Ps, one by one -/
inductive Al : List (V → Hp → Prop) → List V → Hp → Prop
  | nil {H : Hp} : Al [] [] H
  | cons {P : V → Hp → Prop} {Ps : List (V → Hp → Prop)} {v : V} {vs : List V} {H : Hp} : P v H → Al Ps vs H → Al (P :: Ps) (v :: vs) H
inductive Mns : List (V → Hp → Prop) → Prop
  | nil : Mns []
  | cons {P : V → Hp → Prop} {Ps : List (V → Hp → Prop)} : Mn P → Mns Ps → Mns (P :: Ps)
theorem Al.up {Ps : List (V → Hp → Prop)} {vs : List V} {H H' : Hp} (m : Mns Ps) (s : Same H H') (h : Al Ps vs H) : Al Ps vs H' := by
  induction h with
  | nil => exact .nil
  | cons p _ ih => cases m with
    | cons m1 m2 => exact .cons (m1.up s p) (ih m2 s)
def EA (X : Cx) (σ : L2.St) (S : Hp) (es : List Expr) (Ps : List (V → Hp → Prop)) : Prop := Mns Ps ∧ ∀ H, Same S H → ∀ Q : List V → Hp → Prop, (∀ vs S' H', Gr S H S' H' → Al Ps vs S' → Q vs H') → HA X es σ H Q
section
variable {X : Cx} {σ : L2.St} {S S' : Hp} {e a b c : Expr} {P P' : V → Hp → Prop} {pos : Pos}
theorem EE.up [Mn P] (s : Same S S') (h : EE X σ S e P) : EE X σ S' e P := fun H a Q q => h H (s.trans a) Q fun v S2 H2 g p => q v (uniS S2 S') H2 (g.uni s a) (Mn.up uni_l p)
theorem ET.up {k : Bool} (s : Same S S') (h : ET X σ S e k) : ET X σ S' e k := fun H a Q q => h H (s.trans a) Q fun S2 H2 g => q (uniS S2 S') H2 (g.uni s a)
theorem EW.up {k : Bool} (s : Same S S') (h : EW X σ S e k) : EW X σ S' e k := fun H a Q q => h H (s.trans a) Q fun S2 H2 g => q (uniS S2 S') H2 (g.uni s a)
theorem EA.up {es : List Expr} {Ps : List (V → Hp → Prop)} (s : Same S S') (h : EA X σ S es Ps) : EA X σ S' es Ps := ⟨h.1, fun H a Q q => h.2 H (s.trans a) Q fun v S2 H2 g p => q v (uniS S2 S') H2 (g.uni s a) (p.up h.1 uni_l)⟩
theorem EE.imp (h : EE X σ S e P) (f : ∀ v H', P v H' → P' v H') : EE X σ S e P' := fun H1 s Q q => h H1 s Q fun v S2 H2 s2 p => q v S2 H2 s2 (f v S2 p)
theorem EE.is (h : EE X σ S e P) (f : P = P') : EE X σ S e P' := f ▸ h
theorem ET.is {k k' : Bool} (h : ET X σ S e k) (f : k = k') : ET X σ S e k' := f ▸ h
theorem ea_nil : EA X σ S [] [] := ⟨.nil, fun H1 s Q q => ha_of pa_nil (q [] S H1 (Gr.refl s) .nil)⟩
theorem ea_cons [m : Mn P] {es : List Expr} {Ps : List (V → Hp → Prop)} (h : EE X σ S e P) (r : EA X σ S es Ps) (hs : starEach (e :: es) X.env = (false, eval e X.env) :: starEach es X.env := by rfl) : EA X σ S (e :: es) (P :: Ps) := ⟨.cons m r.1, fun H1 s Q q => by
  refine ha_of (pa_cons (te := bE X e) (t := bA X es) peb pab hs) ?_
  refine h H1 s _ fun v S2 H2 g2 p => ?_
  exact (r.up g2.st).2 H2 g2.sub _ fun vs S3 H3 g3 al => q (v :: vs) S3 H3 (g2.trans g3) (.cons (Mn.up g3.st p) al)⟩
end
end Z

namespace Z
open PySem PySem.Spec PyProof.Rows L2
/-! ## 6. expressions -/
section
variable {X : Cx} {σ : L2.St} {S S' : Hp} {e a b c : Expr} {P Pa Pb R : V → Hp → Prop} {pos p : Pos} {i j : Int} {d d1 d2 : PyData} {k k1 k2 : Bool}
theorem EE.isd {d' : PyData} (h : EE X σ S e (Dt X.K d)) (f : d = d') : EE X σ S e (Dt X.K d') := f ▸ h
theorem ee_var (i : Nat) {x : Str} {v : V} (hv : σ[i]? = some (some v)) (h : P v S) (hN : X.N[i]? = some x := by rfl) (hvis : Vis X.env.scope x := by first | exact Or.inl rfl | exact Or.inr (Or.inl rfl) | exact Or.inr (Or.inr rfl)) (hd : (x == ("__debug__" : Str)) = false := by decide)
    (hcd : (x == ("__classdict__" : Str)) = false := by decide) : EE X σ S (.Name x pos) P := fun H s Q q => he_of (pv i hN hvis hd hcd) ⟨v, hv, q v S H (Gr.refl s) h⟩
theorem ee_cst {v : V} (he : PE X e (tC v)) (h : P v S) : EE X σ S e P := fun H s Q q => he_of he (q v S H (Gr.refl s) h)
theorem ee_int {n} : EE X σ S (.Constant (.int i) n pos) (Dt X.K (.int i)) := ee_cst pe_int (.int i)
theorem ee_bl {n} : EE X σ S (.Constant (.bool k) n pos) (Dt X.K (.bool k)) := ee_cst pe_bl (.bl k)
theorem ee_non {n} : EE X σ S (.Constant .none n pos) (Dt X.K .none) := ee_cst pe_non .non
theorem ee_str {x n} : EE X σ S (.Constant (.str x) n pos) (Dt X.K (.str x)) := ee_cst pe_str (.str x)
theorem ee_glob {x : Str} {v : V} {u : Value} (hm : X.mg x = some u) (r : RelV v u) (h : P v S) (hg : Gl X x := by rfl) (hd : (x == ("__debug__" : Str)) = false := by decide) : EE X σ S (.Name x pos) P := ee_cst (pe_glob hg hm r hd) h
theorem ee_bltn {x : Str} {v : V} {u : Value} (hm : X.mg x = none) (hv : bootBuiltins x = some u) (r : RelV v u) (h : P v S) (hg : Gl X x := by rfl) (hn : x ≠ "__name__" := by decide) (hd : (x == ("__debug__" : Str)) = false := by decide) : EE X σ S (.Name x pos) P := ee_cst (pe_bltn hg hm hv r hn hd) h
theorem ee_globI {x : Str} {t : Tok} (hm : X.mg x = some (.int i t)) (hg : Gl X x := by rfl) (hd : (x == ("__debug__" : Str)) = false := by decide) : EE X σ S (.Name x pos) (Dt X.K (.int i)) := ee_glob (v := .int i) hm ⟨t, rfl⟩ (.int i) hg hd
/-- what a two-place operation gives -/
def OpE (r : R2) (S : Hp) (Pa Pb R : V → Hp → Prop) : Prop := ∀ x y S1 H1, Same S S1 → Same S1 H1 → Pa x S1 → Pb y S1 → ∀ Q : VK, (∀ v S2 H2, Gr S1 H1 S2 H2 → R v S2 → Q v H2) → r x y H1 Q
theorem ee_2 {t : R2} [Mn Pa] [Mn Pb] (hp : PE X e (tOp t (bE X a) (bE X b))) (ha : EE X σ S a Pa) (hb : EE X σ S b Pb) (hr : OpE t S Pa Pb R) : EE X σ S e R := fun H s Q q =>
  he_of hp (ha H s _ fun x S1 H1 g1 px => (hb.up g1.st) H1 g1.sub _ fun y S2 H2 g2 py => hr x y S2 H2 (g1.st.trans g2.st) g2.sub (Mn.up g2.st px) py Q fun v S3 H3 g3 rv => q v S3 H3 ((g1.trans g2).trans g3) rv)
theorem ee_op {op : Operator} {t : R2} [Mn Pa] [Mn Pb] (ho : OpR X (binaryOp op) t) (ha : EE X σ S a Pa) (hb : EE X σ S b Pb) (hr : OpE t S Pa Pb R) : EE X σ S (.BinOp a op b pos) R := ee_2 (pe_op ho peb peb) ha hb hr
theorem ee_cmp {op : CmpOp} {t : R2} [Mn Pa] [Mn Pb] (ho : OpR X (compareOp op) t) (ha : EE X σ S a Pa) (hb : EE X σ S b Pb) (hr : OpE t S Pa Pb R) (hm : behindInMarks op b = false) : EE X σ S (.Compare a [op] [b] pos) R := ee_2 (pe_cmpR ho peb peb hm) ha hb hr
theorem opE_I0 {K : PySem.W.Frag} {g : Int → Int → V} {d : PyData} (h : ∀ S, Dt K d (g i j) S) : OpE (rI0 g) S (Dt K (.int i)) (Dt K (.int j)) (Dt K d) := fun x y S1 H1 _ s px py Q q => by
  cases px; cases py
  exact ⟨i, j, rfl, rfl, q _ S1 H1 (Gr.refl s) (h S1)⟩
theorem opE_I {K : PySem.W.Frag} {C : Int → Int → Prop} {g : Int → Int → V} {d : PyData} (hc : C i j) (h : ∀ S, Dt K d (g i j) S) : OpE (rI C g) S (Dt K (.int i)) (Dt K (.int j)) (Dt K d) := fun x y S1 H1 _ s px py Q q => by
  cases px; cases py
  exact ⟨i, j, rfl, rfl, hc, q _ S1 H1 (Gr.refl s) (h S1)⟩
theorem ee_add (ha : EE X σ S a (Dt X.K (.int i))) (hb : EE X σ S b (Dt X.K (.int j))) : EE X σ S (.BinOp a .Add b pos) (Dt X.K (.int (i + j))) := ee_op op_add ha hb (opE_I0 fun _ => .int _)
theorem ee_sub (ha : EE X σ S a (Dt X.K (.int i))) (hb : EE X σ S b (Dt X.K (.int j))) : EE X σ S (.BinOp a .Sub b pos) (Dt X.K (.int (i - j))) := ee_op op_sub ha hb (opE_I0 fun _ => .int _)
theorem ee_mul (hc : CMulX i j) (ha : EE X σ S a (Dt X.K (.int i))) (hb : EE X σ S b (Dt X.K (.int j))) : EE X σ S (.BinOp a .Mult b pos) (Dt X.K (.int (i * j))) := ee_op op_mulX ha hb (opE_I hc fun _ => .int _)
theorem ee_fdiv (hc : CDivW i j) (ha : EE X σ S a (Dt X.K (.int i))) (hb : EE X σ S b (Dt X.K (.int j))) : EE X σ S (.BinOp a .FloorDiv b pos) (Dt X.K (.int (i / j))) := ee_op op_fdivW ha hb (opE_I hc fun _ => .int _)
theorem ee_mod (hc : 0 < j) (ha : EE X σ S a (Dt X.K (.int i))) (hb : EE X σ S b (Dt X.K (.int j))) : EE X σ S (.BinOp a .Mod b pos) (Dt X.K (.int (i % j))) := ee_op op_mod ha hb (opE_I hc fun _ => .int _)
theorem ee_pow (hc : CPow i j) (ha : EE X σ S a (Dt X.K (.int i))) (hb : EE X σ S b (Dt X.K (.int j))) : EE X σ S (.BinOp a .Pow b pos) (Dt X.K (.int (i ^ j.toNat))) := ee_op op_pow ha hb (opE_I hc fun _ => .int _)
theorem ee_lt (ha : EE X σ S a (Dt X.K (.int i))) (hb : EE X σ S b (Dt X.K (.int j))) : EE X σ S (.Compare a [.Lt] [b] pos) (Dt X.K (.bool (decide (i < j)))) := ee_cmp op_lt ha hb (opE_I0 fun _ => .bl _) (nomark _)
theorem ee_le (ha : EE X σ S a (Dt X.K (.int i))) (hb : EE X σ S b (Dt X.K (.int j))) : EE X σ S (.Compare a [.LtE] [b] pos) (Dt X.K (.bool (decide (i ≤ j)))) := ee_cmp op_le ha hb (opE_I0 fun _ => .bl _) (nomark _)
theorem ee_gt (ha : EE X σ S a (Dt X.K (.int i))) (hb : EE X σ S b (Dt X.K (.int j))) : EE X σ S (.Compare a [.Gt] [b] pos) (Dt X.K (.bool (decide (j < i)))) := ee_cmp op_gt ha hb (opE_I0 fun _ => .bl _) (nomark _)
theorem ee_ge (ha : EE X σ S a (Dt X.K (.int i))) (hb : EE X σ S b (Dt X.K (.int j))) : EE X σ S (.Compare a [.GtE] [b] pos) (Dt X.K (.bool (decide (j ≤ i)))) := ee_cmp op_ge ha hb (opE_I0 fun _ => .bl _) (nomark _)
/-- == and != of data -/
theorem ee_eq {u : Nat} (hr : Room u X.A) (h1 : SeqAt.shaped d1 = true) (h2 : SeqAt.shaped d2 = true) (ha : EE X σ S a (Dt X.K d1)) (hb : EE X σ S b (Dt X.K d2)) : EE X σ S (.Compare a [.Eq] [b] pos) (Dt X.K (.bool (PyData.eqv d1 d2))) :=
  ee_cmp (op_eqD hr.units) ha hb (fun x y S1 H1 _ s px py Q q => ⟨d1, d2, (px.up s).dp, (py.up s).dp, h1, h2, q _ S1 H1 (Gr.refl s) (.bl _)⟩) (nomark _)
theorem ee_ne {u : Nat} (hr : Room u X.A) (h1 : SeqAt.shaped d1 = true) (h2 : SeqAt.shaped d2 = true) (ha : EE X σ S a (Dt X.K d1)) (hb : EE X σ S b (Dt X.K d2)) : EE X σ S (.Compare a [.NotEq] [b] pos) (Dt X.K (.bool (!PyData.eqv d1 d2))) :=
  ee_cmp (op_neD hr.units) ha hb (fun x y S1 H1 _ s px py Q q => ⟨d1, d2, (px.up s).dp, (py.up s).dp, h1, h2, q _ S1 H1 (Gr.refl s) (.bl _)⟩) (nomark _)
/-- == of two ints, of two texts -/
theorem ee_eqI (ha : EE X σ S a (Dt X.K (.int i))) (hb : EE X σ S b (Dt X.K (.int j))) : EE X σ S (.Compare a [.Eq] [b] pos) (Dt X.K (.bool (decide (i = j)))) :=
  ee_cmp op_eq ha hb (fun x y S1 H1 _ s px py Q q => by
    cases px; cases py
    refine ⟨rfl, ?_⟩
    have e : decide (V.int i = V.int j) = decide (i = j) := by simp
    rw [e]
    exact q _ S1 H1 (Gr.refl s) (.bl _)) (nomark _)
theorem ee_neI (ha : EE X σ S a (Dt X.K (.int i))) (hb : EE X σ S b (Dt X.K (.int j))) : EE X σ S (.Compare a [.NotEq] [b] pos) (Dt X.K (.bool (!decide (i = j)))) :=
  ee_cmp op_ne ha hb (fun x y S1 H1 _ s px py Q q => by
    cases px; cases py
    refine ⟨rfl, ?_⟩
    have e : decide (V.int i = V.int j) = decide (i = j) := by simp
    rw [e]
    exact q _ S1 H1 (Gr.refl s) (.bl _)) (nomark _)
theorem ee_eqS {x y : Str} (ha : EE X σ S a (Dt X.K (.str x))) (hb : EE X σ S b (Dt X.K (.str y))) : EE X σ S (.Compare a [.Eq] [b] pos) (Dt X.K (.bool (decide (x = y)))) :=
  ee_cmp op_eq ha hb (fun v w S1 H1 _ s px py Q q => by
    cases px; cases py
    refine ⟨rfl, ?_⟩
    have e : decide (V.str x = V.str y) = decide (x = y) := by simp
    rw [e]
    exact q _ S1 H1 (Gr.refl s) (.bl _)) (nomark _)
/-- x is None -/
theorem ee_isN {v : V} (ha : EE X σ S a (fun w _ => w = v)) {n p2} : EE X σ S (.Compare a [.Is] [.Constant .none n p2] pos) (Dt X.K (.bool (decide (v = .non)))) := by
  haveI : Mn (fun (w : V) (_ : Hp) => w = v) := ⟨fun _ h => h⟩
  exact ee_cmp op_isN ha (ee_non (n := n) (pos := p2)) (fun x y S1 H1 _ s px py Q q => by
    cases py
    subst px
    exact ⟨rfl, q _ S1 H1 (Gr.refl s) (.bl _)⟩) (nomark _)
theorem ee_neg (ha : EE X σ S a (Dt X.K (.int i))) : EE X σ S (.UnaryOp .USub a pos) (Dt X.K (.int (-i))) := fun H s Q q =>
  he_of (pe_un un_neg peb) (ha H s _ fun x S1 H1 g1 px => by cases px; exact ⟨i, rfl, q _ S1 H1 g1 (.int _)⟩)
/-! ### and, or, not, if -/
theorem ee_not (ha : EE X σ S a (Dt X.K (.bool k))) : EE X σ S (.UnaryOp .Not a pos) (Dt X.K (.bool (!k))) := fun H s Q q =>
  he_of (pe_not peb) (ha H s _ fun x S1 H1 g1 px => by cases px; exact ⟨k, rfl, q _ S1 H1 g1 (.bl _)⟩)
theorem ee_one {op} (ha : EE X σ S a P) : EE X σ S (.BoolOp op [a] pos) P := fun H s Q q => he_of (pe_one peb) (ha H s Q q)
theorem ee_and {rest : List Expr} (ha : EE X σ S a (Dt X.K (.bool k1))) (hb : k1 = true → EE X σ S (.BoolOp .And (b :: rest) pos) (Dt X.K (.bool k2))) : EE X σ S (.BoolOp .And (a :: b :: rest) pos) (Dt X.K (.bool (k1 && k2))) := fun H s Q q =>
  he_of (pe_and peb peb) (ha H s _ fun x S1 H1 g1 px => by
    cases px
    refine ⟨k1, rfl, ?_⟩
    cases k1 with
    | false => exact iteF (q _ S1 H1 g1 (.bl _))
    | true => exact iteT (((hb rfl).up g1.st) H1 g1.sub _ fun y S2 H2 g2 py => q y S2 H2 (g1.trans g2) py))
theorem ee_or {rest : List Expr} (ha : EE X σ S a (Dt X.K (.bool k1))) (hb : k1 = false → EE X σ S (.BoolOp .Or (b :: rest) pos) (Dt X.K (.bool k2))) : EE X σ S (.BoolOp .Or (a :: b :: rest) pos) (Dt X.K (.bool (k1 || k2))) := fun H s Q q =>
  he_of (pe_or peb peb) (ha H s _ fun x S1 H1 g1 px => by
    cases px
    refine ⟨k1, rfl, ?_⟩
    cases k1 with
    | true => exact iteT (q _ S1 H1 g1 (.bl _))
    | false => exact iteF (((hb rfl).up g1.st) H1 g1.sub _ fun y S2 H2 g2 py => q y S2 H2 (g1.trans g2) py))
/-- tests -/
theorem et_val (ha : EE X σ S e (Dt X.K (.bool k))) (he : ∀ whole, isTrue e X.env whole = (do let v ← whole; standAt e.pos; holding [v] (truthy v)) := by intro _; rfl) : ET X σ S e k := fun H s Q q =>
  ht_of (pt_val peb he) (ha H s _ fun x S1 H1 g1 px => by cases px; exact ⟨k, rfl, q S1 H1 g1⟩)
theorem et_cmp {op : CmpOp} {t : R2} [Mn Pa] [Mn Pb] (ho : OpR X (compareOp op) t) (ha : EE X σ S a Pa) (hb : EE X σ S b Pb) (hr : OpE t S Pa Pb (Dt X.K (.bool k))) (hm : behindInMarks op b = false) : ET X σ S (.Compare a [op] [b] pos) k := fun H s Q q =>
  ht_of (pt_cmpR ho peb peb hm) (ha H s _ fun x S1 H1 g1 px => (hb.up g1.st) H1 g1.sub _ fun y S2 H2 g2 py => hr x y S2 H2 (g1.st.trans g2.st) g2.sub (Mn.up g2.st px) py _ fun v S3 H3 g3 rv => by
    cases rv; exact ⟨k, rfl, q S3 H3 ((g1.trans g2).trans g3)⟩)
theorem et_lt (ha : EE X σ S a (Dt X.K (.int i))) (hb : EE X σ S b (Dt X.K (.int j))) : ET X σ S (.Compare a [.Lt] [b] pos) (decide (i < j)) := et_cmp op_lt ha hb (opE_I0 fun _ => .bl _) (nomark _)
theorem et_le (ha : EE X σ S a (Dt X.K (.int i))) (hb : EE X σ S b (Dt X.K (.int j))) : ET X σ S (.Compare a [.LtE] [b] pos) (decide (i ≤ j)) := et_cmp op_le ha hb (opE_I0 fun _ => .bl _) (nomark _)
theorem et_gt (ha : EE X σ S a (Dt X.K (.int i))) (hb : EE X σ S b (Dt X.K (.int j))) : ET X σ S (.Compare a [.Gt] [b] pos) (decide (j < i)) := et_cmp op_gt ha hb (opE_I0 fun _ => .bl _) (nomark _)
theorem et_ge (ha : EE X σ S a (Dt X.K (.int i))) (hb : EE X σ S b (Dt X.K (.int j))) : ET X σ S (.Compare a [.GtE] [b] pos) (decide (j ≤ i)) := et_cmp op_ge ha hb (opE_I0 fun _ => .bl _) (nomark _)
theorem et_eqI (ha : EE X σ S a (Dt X.K (.int i))) (hb : EE X σ S b (Dt X.K (.int j))) : ET X σ S (.Compare a [.Eq] [b] pos) (decide (i = j)) :=
  et_cmp op_eq ha hb (fun x y S1 H1 _ s px py Q q => by
    cases px; cases py
    refine ⟨rfl, ?_⟩
    have e : decide (V.int i = V.int j) = decide (i = j) := by simp
    rw [e]
    exact q _ S1 H1 (Gr.refl s) (.bl _)) (nomark _)
theorem et_neI (ha : EE X σ S a (Dt X.K (.int i))) (hb : EE X σ S b (Dt X.K (.int j))) : ET X σ S (.Compare a [.NotEq] [b] pos) (!decide (i = j)) :=
  et_cmp op_ne ha hb (fun x y S1 H1 _ s px py Q q => by
    cases px; cases py
    refine ⟨rfl, ?_⟩
    have e : decide (V.int i = V.int j) = decide (i = j) := by simp
    rw [e]
    exact q _ S1 H1 (Gr.refl s) (.bl _)) (nomark _)
theorem et_eqS {x y : Str} (ha : EE X σ S a (Dt X.K (.str x))) (hb : EE X σ S b (Dt X.K (.str y))) : ET X σ S (.Compare a [.Eq] [b] pos) (decide (x = y)) :=
  et_cmp op_eq ha hb (fun v w S1 H1 _ s px py Q q => by
    cases px; cases py
    refine ⟨rfl, ?_⟩
    have e : decide (V.str x = V.str y) = decide (x = y) := by simp
    rw [e]
    exact q _ S1 H1 (Gr.refl s) (.bl _)) (nomark _)
theorem et_eq {u : Nat} (hr : Room u X.A) (h1 : SeqAt.shaped d1 = true) (h2 : SeqAt.shaped d2 = true) (ha : EE X σ S a (Dt X.K d1)) (hb : EE X σ S b (Dt X.K d2)) : ET X σ S (.Compare a [.Eq] [b] pos) (PyData.eqv d1 d2) :=
  et_cmp (op_eqD hr.units) ha hb (fun x y S1 H1 _ s px py Q q => ⟨d1, d2, (px.up s).dp, (py.up s).dp, h1, h2, q _ S1 H1 (Gr.refl s) (.bl _)⟩) (nomark _)
theorem et_ne {u : Nat} (hr : Room u X.A) (h1 : SeqAt.shaped d1 = true) (h2 : SeqAt.shaped d2 = true) (ha : EE X σ S a (Dt X.K d1)) (hb : EE X σ S b (Dt X.K d2)) : ET X σ S (.Compare a [.NotEq] [b] pos) (!PyData.eqv d1 d2) :=
  et_cmp (op_neD hr.units) ha hb (fun x y S1 H1 _ s px py Q q => ⟨d1, d2, (px.up s).dp, (py.up s).dp, h1, h2, q _ S1 H1 (Gr.refl s) (.bl _)⟩) (nomark _)
theorem et_not (ha : ET X σ S a k) : ET X σ S (.UnaryOp .Not a pos) (!k) := fun H s Q q => ht_of (pt_not ptb) (ha H s _ fun S1 H1 g1 => q S1 H1 g1)
theorem et_w (ha : EW X σ S a k) : ET X σ S a k := fun H s Q q => ht_of (PW.pt pwb) (ha H s Q q)
theorem ew_and1 (ha : ET X σ S a k) : EW X σ S (.BoolOp .And [a] pos) k := fun H s Q q => hw_of (pw_and1 ptb) (ha H s Q q)
theorem ew_or1 (ha : ET X σ S a k) : EW X σ S (.BoolOp .Or [a] pos) k := fun H s Q q => hw_of (pw_or1 ptb) (ha H s Q q)
theorem ew_and {rest : List Expr} (ha : ET X σ S a k1) (hb : k1 = true → EW X σ S (.BoolOp .And (b :: rest) pos) k2) : EW X σ S (.BoolOp .And (a :: b :: rest) pos) (k1 && k2) := fun H s Q q =>
  hw_of (pw_and ptb pwb) (ha H s _ fun S1 H1 g1 => by
    cases k1 with
    | false => exact iteF (q S1 H1 g1)
    | true => exact iteT (((hb rfl).up g1.st) H1 g1.sub _ fun S2 H2 g2 => q S2 H2 (g1.trans g2)))
theorem ew_or {rest : List Expr} (ha : ET X σ S a k1) (hb : k1 = false → EW X σ S (.BoolOp .Or (b :: rest) pos) k2) : EW X σ S (.BoolOp .Or (a :: b :: rest) pos) (k1 || k2) := fun H s Q q =>
  hw_of (pw_or ptb pwb) (ha H s _ fun S1 H1 g1 => by
    cases k1 with
    | true => exact iteT (q S1 H1 g1)
    | false => exact iteF (((hb rfl).up g1.st) H1 g1.sub _ fun S2 H2 g2 => q S2 H2 (g1.trans g2)))
theorem ee_if {Q' : V → Hp → Prop} [Mn Q'] (hc : ET X σ S c k) (ha : k = true → EE X σ S a Q') (hb : k = false → EE X σ S b Q') : EE X σ S (.IfExp c a b pos) Q' := fun H s Q q =>
  he_of (pe_ifExp ptb peb peb) (hc H s _ fun S1 H1 g1 => by
    cases k with
    | false => exact iteF (((hb rfl).up g1.st) H1 g1.sub _ fun y S2 H2 g2 py => q y S2 H2 (g1.trans g2) py)
    | true => exact iteT (((ha rfl).up g1.st) H1 g1.sub _ fun y S2 H2 g2 py => q y S2 H2 (g1.trans g2) py))
/-- truth of a value -/
def truD : PyData → Bool
  | .none => false
  | .bool b => b
  | .int i => i != 0
  | .str x => (x.length : Int) != 0
  | .list xs => !xs.isEmpty
  | .tuple xs => !xs.isEmpty
  | .dict kvs => !kvs.isEmpty
theorem isEmpty_len {α β : Type} {xs : List α} {ys : List β} (h : xs.length = ys.length) : xs.isEmpty = ys.isEmpty := by
  cases xs <;> cases ys <;> simp_all
theorem truV_of {K : PySem.W.Frag} {v : V} {H : Hp} (h : Dt K d v H) (hs : ∀ x, d = .str x → x.length ≤ sizeLine) : TruV K v H (truD d) := by
  cases h with
  | non => rfl
  | bl b => rfl
  | int i => rfl
  | str x => exact ⟨hs x rfl, rfl⟩
  | lst h l z f => exact .inl ⟨_, sql_of h, by show (!_) = _; rw [isEmpty_len l]⟩
  | tup h l z f => exact .inr (.inl ⟨_, h, by show (!_) = _; rw [isEmpty_len l]⟩)
theorem et_tru (ha : EE X σ S a (Dt X.K d)) (hs : ∀ x, d = .str x → x.length ≤ sizeLine) (he : ∀ whole, isTrue a X.env whole = (do let v ← whole; standAt a.pos; holding [v] (truthy v)) := by intro _; rfl) : ET X σ S a (truD d) := fun H s Q q =>
  ht_of (pt_truth peb he) (ha H s _ fun x S1 H1 g1 px => ⟨_, truV_of (px.up g1.sub) hs, q S1 H1 g1⟩)
/-! ### displays -/
theorem ee_tupA {es : List Expr} {x1} {vsP : List V → Hp → Prop} (h : ∀ H, Same S H → ∀ Q : List V → Hp → Prop, (∀ vs S' H', Gr S H S' H' → vsP vs S' → Q vs H') → HA X es σ H Q) (hz : ∀ vs S', vsP vs S' → vs.length ≤ sizeLine)
    (hR : ∀ vs S' p, Same S S' → S' p = none → vsP vs S' → R (.ref p) (upd S' p (.tup vs))) : EE X σ S (.Tuple es x1 pos) R := fun H s Q q =>
  he_of (pe_tup pab) (h H s _ fun vs S1 H1 g1 al => ⟨hz vs S1 al, fun p hp => q _ _ _ (g1.trans (Gr.new g1.sub hp)) (hR vs S1 p g1.st (g1.sub.free hp) al)⟩)
theorem ee_lstA {es : List Expr} {vsP : List V → Hp → Prop} (h : ∀ H, Same S H → ∀ Q : List V → Hp → Prop, (∀ vs S' H', Gr S H S' H' → vsP vs S' → Q vs H') → HA X es σ H Q) (hz : ∀ vs S', vsP vs S' → vs.length ≤ sizeLine)
    (hR : ∀ vs S' p, Same S S' → S' p = none → vsP vs S' → R (.ref p) (upd S' p (.lst vs))) : EE X σ S (.List es pos) R := fun H s Q q =>
  he_of (pe_lst pab) (h H s _ fun vs S1 H1 g1 al => ⟨hz vs S1 al, fun p hp => q _ _ _ (g1.trans (Gr.new g1.sub hp)) (hR vs S1 p g1.st (g1.sub.free hp) al)⟩)
def Ds (K : PySem.W.Frag) (ds : List PyData) : List (V → Hp → Prop) := ds.map (Dt K)
theorem al_dts {K : PySem.W.Frag} : ∀ {ds : List PyData} {vs : List V} {H : Hp}, Al (Ds K ds) vs H → Dts K ds vs H
  | [], _, _, h => by cases h; exact .nil
  | d :: ds, _, _, h => by cases h with
    | cons p r => exact .cons p (al_dts r)
theorem dts_al {K : PySem.W.Frag} : ∀ {ds : List PyData} {vs : List V} {H : Hp}, Dts K ds vs H → Al (Ds K ds) vs H
  | [], [], _, h => .nil
  | [], _ :: _, _, h => by have := h.1; simp at this
  | _ :: _, [], _, h => by have := h.1; simp at this
  | d :: ds, v :: vs, _, h => .cons (h.2 0 v d rfl rfl) (dts_al ⟨by have := h.1; simpa using this, fun i x d hx hd => h.2 (i + 1) x d (by simpa using hx) (by simpa using hd)⟩)
theorem ee_tup {es : List Expr} {x1} {ds : List PyData} (h : EA X σ S es (Ds X.K ds)) (hz : ds.length ≤ sizeLine := by show _ ≤ 16777216; exact Nat.le_of_ble_eq_true rfl) : EE X σ S (.Tuple es x1 pos) (Dt X.K (.tuple ds)) :=
  ee_tupA (vsP := Al (Ds X.K ds)) h.2 (fun vs S' al => by rw [(al_dts al).1]; exact hz) fun vs S' p _ hp al => Dt.tup_mk (sqt_of upd_same) ((al_dts al).up (Same.new hp)) (by rw [(al_dts al).1]; exact hz)
theorem ee_lst {es : List Expr} {ds : List PyData} (h : EA X σ S es (Ds X.K ds)) (hz : ds.length ≤ sizeLine := by show _ ≤ 16777216; exact Nat.le_of_ble_eq_true rfl) : EE X σ S (.List es pos) (Dt X.K (.list ds)) :=
  ee_lstA (vsP := Al (Ds X.K ds)) h.2 (fun vs S' al => by rw [(al_dts al).1]; exact hz) fun vs S' p _ hp al => Dt.lst_mk upd_same ((al_dts al).up (Same.new hp)) (by rw [(al_dts al).1]; exact hz)
end
end Z

namespace Z
open PySem PySem.Spec PyProof.Rows L2
/-! ## 7. calls of built-ins, sequences -/
theorem dts_int {K : PySem.W.Frag} : ∀ {ns : List Int} {xs : List V} {H : Hp}, Dts K (ns.map PyData.int) xs H → xs = ns.map V.int
  | [], [], _, _ => rfl
  | [], _ :: _, _, h => by have := h.1; simp at this
  | _ :: _, [], _, h => by have := h.1; simp at this
  | n :: ns, x :: xs, _, h => by
    have e1 := (h.2 0 x (.int n) rfl rfl).int_inv
    have e2 := dts_int (ns := ns) (xs := xs) ⟨by have := h.1; simpa using this, fun i y d hy hd => h.2 (i + 1) y d (by simpa using hy) (by simpa using hd)⟩
    rw [e1, e2]; rfl
theorem dts_bl {K : PySem.W.Frag} : ∀ {ns : List Bool} {xs : List V} {H : Hp}, Dts K (ns.map PyData.bool) xs H → xs = ns.map V.bl
  | [], [], _, _ => rfl
  | [], _ :: _, _, h => by have := h.1; simp at this
  | _ :: _, [], _, h => by have := h.1; simp at this
  | n :: ns, x :: xs, _, h => by
    have e1 := (h.2 0 x (.bool n) rfl rfl).bl_inv
    have e2 := dts_bl (ns := ns) (xs := xs) ⟨by have := h.1; simpa using this, fun i y d hy hd => h.2 (i + 1) y d (by simpa using hy) (by simpa using hd)⟩
    rw [e1, e2]; rfl
theorem dts_str {K : PySem.W.Frag} : ∀ {ns : List Str} {xs : List V} {H : Hp}, Dts K (ns.map PyData.str) xs H → xs = ns.map V.str
  | [], [], _, _ => rfl
  | [], _ :: _, _, h => by have := h.1; simp at this
  | _ :: _, [], _, h => by have := h.1; simp at this
  | n :: ns, x :: xs, _, h => by
    have e1 := (h.2 0 x (.str n) rfl rfl).str_inv
    have e2 := dts_str (ns := ns) (xs := xs) ⟨by have := h.1; simpa using this, fun i y d hy hd => h.2 (i + 1) y d (by simpa using hy) (by simpa using hd)⟩
    rw [e1, e2]; rfl
theorem int_dts {K : PySem.W.Frag} (ns : List Int) (H : Hp) : Dts K (ns.map PyData.int) (ns.map V.int) H := by
  refine ⟨by simp, fun i x d hx hd => ?_⟩
  rw [List.getElem?_map] at hx hd
  cases e : ns[i]? with
  | none => rw [e] at hx; cases hx
  | some n => rw [e] at hx hd; cases hx; cases hd; exact .int n
def tyN : PyData → String
  | .none => "NoneType"
  | .bool _ => "bool"
  | .int _ => "int"
  | .str _ => "str"
  | .list _ => "list"
  | .tuple _ => "tuple"
  | .dict _ => "dict"
theorem tyX_of {K : PySem.W.Frag} {d : PyData} {v : V} {S H : Hp} (h : Dt K d v S) (s : Same S H) : TyX K H v (.type (tyN d)) := by
  cases h with
  | non => exact .base .non
  | bl b => exact .base (.bl b)
  | int i => exact .base (.int i)
  | str x => exact .base (.str x)
  | lst h l z f => exact .base (.lst (s _ _ h))
  | tup h l z f =>
    rcases h with (h | ⟨o, h⟩) | ⟨o, its, n, h, c, _⟩
    · exact .base (.tup (s _ _ h))
    · exact .fTuple (s _ _ h)
    · exact .kTuple h c
/-- what isinstance says of data -/
def isN (t T : String) : Bool := t == T || (t == "bool" && T == "int")
theorem kit_tab : (["NoneType", "bool", "int", "str", "list", "tuple", "dict"].all fun t => ["int", "bool", "str", "list", "tuple"].all fun T => decide (kitB t T = some (isN t T))) = true := by decide +kernel
def isD (d : PyData) (T : String) : Bool := isN (tyN d) T
theorem isD_ok (d : PyData) {T : String} (hT : T ∈ ["int", "bool", "str", "list", "tuple"]) : kitB (tyN d) T = some (isD d T) := by
  have h := List.all_eq_true.mp (List.all_eq_true.mp kit_tab (tyN d) (by cases d <;> simp [tyN])) T hT
  exact of_decide_eq_true h
theorem isDi (d : PyData) : isD d "int" = (match d with | .int _ => true | .bool _ => true | _ => false) := by cases d <;> rfl
theorem isDb (d : PyData) : isD d "bool" = (match d with | .bool _ => true | _ => false) := by cases d <;> rfl
theorem isDs (d : PyData) : isD d "str" = (match d with | .str _ => true | _ => false) := by cases d <;> rfl
theorem isDl (d : PyData) : isD d "list" = (match d with | .list _ => true | _ => false) := by cases d <;> rfl
theorem isDt (d : PyData) : isD d "tuple" = (match d with | .tuple _ => true | _ => false) := by cases d <;> rfl
section
variable {X : Cx} {σ : L2.St} {S S' : Hp} {e a b c : Expr} {es : List Expr} {P Pa Pb R : V → Hp → Prop} {Ps : List (V → Hp → Prop)} {pos p : Pos} {i j : Int} {d d1 d2 : PyData} {ds ds1 ds2 : List PyData} {k : Bool} {x : Str} {id T : String}
def ClE (r : List V → Hp → VK → Prop) (S : Hp) (Ps : List (V → Hp → Prop)) (R : V → Hp → Prop) : Prop := ∀ vs S1 H1, Same S S1 → Same S1 H1 → Al Ps vs S1 → ∀ Q : VK, (∀ v S2 H2, Gr S1 H1 S2 H2 → R v S2 → Q v H2) → r vs H1 Q
theorem ee_callA {t : List V → Hp → VK → Prop} (hp : PE X e (tCB t (bA X es))) (ha : EA X σ S es Ps) (hr : ClE t S Ps R) : EE X σ S e R := fun H s Q q =>
  he_of hp (ha.2 H s _ fun vs S1 H1 g1 al => hr vs S1 H1 g1.st g1.sub al Q fun v S2 H2 g2 rv => q v S2 H2 (g1.trans g2) rv)
theorem ee_callB {t : List V → Hp → VK → Prop} (hc : CallR X (.builtin id) t) (hm : X.mg x = none) (hv : bootBuiltins x = some (.builtin id)) (ha : EA X σ S (e :: es) Ps) (hr : ClE t S Ps R) (hg : Gl X x := by rfl) (hn : x ≠ "__name__" := by decide) (hdb : (x == ("__debug__" : Str)) = false := by decide)
    (he : starEach (e :: es) X.env = (false, eval e X.env) :: starEach es X.env := by rfl) (hpl : (backTo pos (starEach es X.env)).any (·.1) = false := by rfl) : EE X σ S (.Call (.Name x p) (e :: es) [] pos) R :=
  ee_callA (pe_callB hc hg hm hv pab hn hdb he hpl) ha hr
theorem ee_callTy {t : List V → Hp → VK → Prop} (hc : CallR X (.type T) t) (hm : X.mg x = none) (hv : bootBuiltins x = some (.type T)) (ha : EA X σ S (e :: es) Ps) (hr : ClE t S Ps R) (hg : Gl X x := by rfl) (hn : x ≠ "__name__" := by decide) (hdb : (x == ("__debug__" : Str)) = false := by decide)
    (he : starEach (e :: es) X.env = (false, eval e X.env) :: starEach es X.env := by rfl) (hpl : (backTo pos (starEach es X.env)).any (·.1) = false := by rfl) : EE X σ S (.Call (.Name x p) (e :: es) [] pos) R :=
  ee_callA (pe_callTy hc hg hm hv pab hn hdb he hpl) ha hr
theorem ea_1 [Mn P] (h : EE X σ S e P) (hs : starEach [e] X.env = (false, eval e X.env) :: starEach [] X.env := by rfl) : EA X σ S [e] [P] := ea_cons h ea_nil hs
theorem ea_2 [Mn Pa] [Mn Pb] (h : EE X σ S a Pa) (h2 : EE X σ S b Pb) (hs : starEach [a, b] X.env = (false, eval a X.env) :: starEach [b] X.env := by rfl) (hs2 : starEach [b] X.env = (false, eval b X.env) :: starEach [] X.env := by rfl) : EA X σ S [a, b] [Pa, Pb] := ea_cons h (ea_cons h2 ea_nil hs2) hs
theorem Al.one {Pa : V → Hp → Prop} {vs : List V} {H : Hp} (h : Al [Pa] vs H) : ∃ v, vs = [v] ∧ Pa v H := by
  cases h with
  | cons p r => cases r; exact ⟨_, rfl, p⟩
theorem Al.two {Pa Pb : V → Hp → Prop} {vs : List V} {H : Hp} (h : Al [Pa, Pb] vs H) : ∃ v w, vs = [v, w] ∧ Pa v H ∧ Pb w H := by
  cases h with
  | cons p r => cases r with
    | cons p2 r2 => cases r2; exact ⟨_, _, rfl, p, p2⟩
theorem Al.three {Pa Pb Pc : V → Hp → Prop} {vs : List V} {H : Hp} (h : Al [Pa, Pb, Pc] vs H) : ∃ v w u, vs = [v, w, u] ∧ Pa v H ∧ Pb w H ∧ Pc u H := by
  cases h with
  | cons p r => obtain ⟨w, u, rfl, q1, q2⟩ := Al.two r; exact ⟨_, _, _, rfl, p, q1, q2⟩
theorem ee_isi {cn : Str} {T : String} (hk : kitB (tyN d) T = some k) (hm : X.mg "isinstance" = none) (hmT : X.mg cn = none) (hv : bootBuiltins cn = some (.type T)) (ha : EE X σ S a (Dt X.K d)) {p2 : Pos} (hg : Gl X "isinstance" := by rfl) (hgT : Gl X cn := by rfl) (hn : cn ≠ "__name__" := by decide) (hdb : (cn == ("__debug__" : Str)) = false := by decide)
    (hs : starEach [a, .Name cn p2] X.env = (false, eval a X.env) :: starEach [.Name cn p2] X.env := by rfl) : EE X σ S (.Call (.Name "isinstance" p) [a, .Name cn p2] [] pos) (Dt X.K (.bool k)) := by
  haveI : Mn (fun (w : V) (_ : Hp) => w = .ty T) := ⟨fun _ h => h⟩
  refine ee_callB call_isi hm boot_isinstance (ea_2 ha (ee_bltn (P := fun w _ => w = .ty T) (v := .ty T) (u := .type T) hmT hv rfl rfl hgT hn hdb) hs rfl) (fun vs S1 H1 _ s al Q q => ?_) hg (he := hs) (hpl := by rfl)
  obtain ⟨v, w, rfl, pv, pw⟩ := al.two
  subst pw
  exact ⟨v, .ty T, .type (tyN d), .type T, k, rfl, .ty T, tyX_of pv s, kit_ty hk, q _ S1 H1 (Gr.refl s) (.bl k)⟩
/-- len -/
def lenD : PyData → Option Nat
  | .str x => some x.length
  | .list xs => some xs.length
  | .tuple xs => some xs.length
  | _ => none
theorem ee_len {n : Nat} (hm : X.mg "len" = none) (hl : lenD d = some n) (ha : EE X σ S a (Dt X.K d)) (hz : ∀ x, d = .str x → x.length ≤ sizeLine := by intro _ h; cases h) (hg : Gl X "len" := by rfl)
    (hs : starEach [a] X.env = (false, eval a X.env) :: starEach [] X.env := by rfl) : EE X σ S (.Call (.Name "len" p) [a] [] pos) (Dt X.K (.int n)) :=
  ee_callB call_len hm boot_len (ea_1 ha hs) (fun vs S1 H1 _ s al Q q => by
    obtain ⟨v, rfl, pv⟩ := al.one
    refine ⟨v, n, rfl, ?_, q _ S1 H1 (Gr.refl s) (.int _)⟩
    cases pv with
    | non => cases hl
    | bl b => cases hl
    | int i => cases hl
    | str x => cases hl; exact ⟨hz x rfl, rfl⟩
    | lst h l z f => cases hl; exact .inl ⟨_, sql_of (s _ _ h), l.symm⟩
    | tup h l z f => cases hl; exact .inr ⟨_, sqt_up s h, l.symm⟩) hg (he := hs) (hpl := by rfl)
theorem ee_list (hm : X.mg "list" = none) (hd : d = .list ds ∨ d = .tuple ds) (ha : EE X σ S a (Dt X.K d)) (hg : Gl X "list" := by rfl)
    (hs : starEach [a] X.env = (false, eval a X.env) :: starEach [] X.env := by rfl) : EE X σ S (.Call (.Name "list" p) [a] [] pos) (Dt X.K (.list ds)) :=
  ee_callTy call_list_of hm boot_list (ea_1 ha hs) (fun vs S1 H1 _ s al Q q => by
    obtain ⟨v, rfl, pv⟩ := al.one
    rcases hd with rfl | rfl
    · obtain ⟨l, xs, rfl, hl, hx, z⟩ := pv.lst_inv
      exact ⟨l, xs, rfl, .inl (sql_of (s _ _ hl)), fun t ht => q _ _ _ (Gr.new s ht) (Dt.lst_mk upd_same (hx.up (Same.new (s.free ht))) z)⟩
    · obtain ⟨l, xs, rfl, hl, hx, z⟩ := pv.tup_inv
      exact ⟨l, xs, rfl, .inr (sqt_up s hl), fun t ht => q _ _ _ (Gr.new s ht) (Dt.lst_mk upd_same (hx.up (Same.new (s.free ht))) z)⟩) hg (he := hs) (hpl := by rfl)
theorem ee_tupleOf (hm : X.mg "tuple" = none) (ha : EE X σ S a (Dt X.K (.list ds))) (hg : Gl X "tuple" := by rfl)
    (hs : starEach [a] X.env = (false, eval a X.env) :: starEach [] X.env := by rfl) : EE X σ S (.Call (.Name "tuple" p) [a] [] pos) (Dt X.K (.tuple ds)) :=
  ee_callTy call_tuple_of hm boot_tuple (ea_1 ha hs) (fun vs S1 H1 _ s al Q q => by
    obtain ⟨v, rfl, pv⟩ := al.one
    obtain ⟨l, xs, rfl, hl, hx, z⟩ := pv.lst_inv
    exact ⟨l, xs, rfl, .inl ⟨sql_of (s _ _ hl), fun t ht => q _ _ _ (Gr.new s ht) (Dt.tup_mk (sqt_of upd_same) (hx.up (Same.new (s.free ht))) z)⟩⟩) hg (he := hs) (hpl := by rfl)
theorem ee_sum {ns : List Int} (hc : X.calm = true) (hm : X.mg "sum" = none) (ha : EE X σ S a (Dt X.K (.list (ns.map .int)))) (hg : Gl X "sum" := by rfl)
    (hs : starEach [a] X.env = (false, eval a X.env) :: starEach [] X.env := by rfl) : EE X σ S (.Call (.Name "sum" p) [a] [] pos) (Dt X.K (.int ns.sum)) :=
  ee_callB (cr_sum hc) hm boot_sum (ea_1 ha hs) (fun vs S1 H1 _ s al Q q => by
    obtain ⟨v, rfl, pv⟩ := al.one
    obtain ⟨l, xs, rfl, hl, hx, z⟩ := pv.lst_inv
    rw [dts_int hx] at hl
    exact ⟨l, ns, rfl, sql_of (s _ _ hl), q _ S1 H1 (Gr.refl s) (.int _)⟩) hg (he := hs) (hpl := by rfl)
theorem ee_all {bs : List Bool} (hc : X.calm = true) (hm : X.mg "all" = none) (ha : EE X σ S a (Dt X.K (.list (bs.map .bool)))) (hg : Gl X "all" := by rfl)
    (hs : starEach [a] X.env = (false, eval a X.env) :: starEach [] X.env := by rfl) : EE X σ S (.Call (.Name "all" p) [a] [] pos) (Dt X.K (.bool (bs.all fun b => b))) :=
  ee_callB (cr_all hc) hm boot_all (ea_1 ha hs) (fun vs S1 H1 _ s al Q q => by
    obtain ⟨v, rfl, pv⟩ := al.one
    obtain ⟨l, xs, rfl, hl, hx, z⟩ := pv.lst_inv
    rw [dts_bl hx] at hl
    exact ⟨l, bs, rfl, sql_of (s _ _ hl), q _ S1 H1 (Gr.refl s) (.bl _)⟩) hg (he := hs) (hpl := by rfl)
theorem ee_any {bs : List Bool} (hc : X.calm = true) (hm : X.mg "any" = none) (ha : EE X σ S a (Dt X.K (.list (bs.map .bool)))) (hg : Gl X "any" := by rfl)
    (hs : starEach [a] X.env = (false, eval a X.env) :: starEach [] X.env := by rfl) : EE X σ S (.Call (.Name "any" p) [a] [] pos) (Dt X.K (.bool (bs.any fun b => b))) :=
  ee_callB (cr_any hc) hm boot_any (ea_1 ha hs) (fun vs S1 H1 _ s al Q q => by
    obtain ⟨v, rfl, pv⟩ := al.one
    obtain ⟨l, xs, rfl, hl, hx, z⟩ := pv.lst_inv
    rw [dts_bl hx] at hl
    exact ⟨l, bs, rfl, sql_of (s _ _ hl), q _ S1 H1 (Gr.refl s) (.bl _)⟩) hg (he := hs) (hpl := by rfl)
theorem ee_intOf (hm : X.mg "int" = none) (ha : EE X σ S a (Dt X.K (.int i))) (hg : Gl X "int" := by rfl)
    (hs : starEach [a] X.env = (false, eval a X.env) :: starEach [] X.env := by rfl) : EE X σ S (.Call (.Name "int" p) [a] [] pos) (Dt X.K (.int i)) :=
  ee_callTy call_int1 hm boot_int (ea_1 ha hs) (fun vs S1 H1 _ s al Q q => by
    obtain ⟨v, rfl, pv⟩ := al.one
    cases pv
    exact .inl ⟨i, rfl, q _ S1 H1 (Gr.refl s) (.int _)⟩) hg (he := hs) (hpl := by rfl)
theorem ee_strOf (hm : X.mg "str" = none) (hb : i.natAbs.log2 < 1920) (ha : EE X σ S a (Dt X.K (.int i))) (hg : Gl X "str" := by rfl)
    (hs : starEach [a] X.env = (false, eval a X.env) :: starEach [] X.env := by rfl) : EE X σ S (.Call (.Name "str" p) [a] [] pos) (Dt X.K (.str (toString i))) :=
  ee_callTy call_str_int hm boot_str (ea_1 ha hs) (fun vs S1 H1 _ s al Q q => by
    obtain ⟨v, rfl, pv⟩ := al.one
    cases pv
    exact ⟨i, rfl, hb, q _ S1 H1 (Gr.refl s) (.str _)⟩) hg (he := hs) (hpl := by rfl)
/-! ### subscripts -/
theorem ixN_lt {n k : Nat} {i : Int} (h : ixN n i = some k) : k < n := by
  unfold ixN at h
  by_cases h0 : 0 ≤ i
  · rw [if_pos h0] at h
    by_cases h1 : i < n
    · rw [if_pos h1] at h; cases h; omega
    · rw [if_neg h1] at h; cases h
  · rw [if_neg h0] at h
    by_cases h1 : -(n : Int) ≤ i
    · rw [if_pos h1] at h; cases h; omega
    · rw [if_neg h1] at h; cases h
theorem atI_dts {K : PySem.W.Frag} {xs : List V} {H : Hp} (h : Dts K ds xs H) (e : atI ds i = some d) : ∃ x, atI xs i = some x ∧ Dt K d x H := by
  unfold atI at e ⊢
  rw [h.1]
  cases q : ixN ds.length i with
  | none => rw [q] at e; cases e
  | some k =>
    rw [q] at e
    exact h.get (i := k) e
theorem ee_ixL (he : atI ds i = some d) (ha : EE X σ S a (Dt X.K (.list ds))) (hb : EE X σ S b (Dt X.K (.int i))) (hs : PlainIx b := by exact fun _ _ => rfl) : EE X σ S (.Subscript a b pos) (Dt X.K d) :=
  ee_2 (pe_ix ix_list peb peb hs) ha hb fun x y S1 H1 _ s px py Q q => by
    cases py
    obtain ⟨l, xs, rfl, hl, hx, z⟩ := px.lst_inv
    obtain ⟨x, h1, h2⟩ := atI_dts hx he
    exact ⟨l, xs, i, x, rfl, rfl, sql_of (s _ _ hl), h1, q _ S1 H1 (Gr.refl s) h2⟩
theorem ee_ixT (he : atI ds i = some d) (ha : EE X σ S a (Dt X.K (.tuple ds))) (hb : EE X σ S b (Dt X.K (.int i))) (hs : PlainIx b := by exact fun _ _ => rfl) : EE X σ S (.Subscript a b pos) (Dt X.K d) :=
  ee_2 (pe_ix ix_tup peb peb hs) ha hb fun x y S1 H1 _ s px py Q q => by
    cases py
    obtain ⟨l, xs, rfl, hl, hx, z⟩ := px.tup_inv
    obtain ⟨x, h1, h2⟩ := atI_dts hx he
    exact ⟨l, xs, i, x, rfl, rfl, sqt_up s hl, h1, q _ S1 H1 (Gr.refl s) h2⟩
theorem ee_ixS {z : Str} {c : Nat} (hz : z.length ≤ sizeLine) (he : atI z.cps.toList i = some c) (ha : EE X σ S a (Dt X.K (.str z))) (hb : EE X σ S b (Dt X.K (.int i))) (hs : PlainIx b := by exact fun _ _ => rfl) : EE X σ S (.Subscript a b pos) (Dt X.K (.str ⟨#[c]⟩)) :=
  ee_2 (pe_ix ix_str peb peb hs) ha hb fun x y S1 H1 _ s px py Q q => by
    cases px; cases py
    exact ⟨z, i, c, rfl, rfl, hz, he, q _ S1 H1 (Gr.refl s) (.str _)⟩
/-- slices -/
def EO (X : Cx) (σ : L2.St) (S : Hp) (e : Option Expr) (o : Option Int) : Prop := ∀ H, Same S H → ∀ Q : Option Int → Hp → Prop, (∀ S' H', Gr S H S' H' → Q o H') → ∃ t, PO X e t ∧ t σ H Q
def tOb (X : Cx) (e : Option Expr) : TO := fun σ H Q => ∃ t, PO X e t ∧ t σ H Q
theorem pob {e : Option Expr} : PO X e (tOb X e) := ⟨fun pins s σ H Q I ⟨t, ht, h⟩ => ht.run pins s σ H Q I h⟩
theorem eo_none : EO X σ S none none := fun H s Q q => ⟨_, po_none, q S H (Gr.refl s)⟩
theorem eo_some (h : EE X σ S e (Dt X.K (.int i))) : EO X σ S (some e) (some i) := fun H s Q q => ⟨_, po_some peb, h H s _ fun v S1 H1 g1 pv => by cases pv; exact ⟨i, rfl, q S1 H1 g1⟩⟩
theorem EO.up {o : Option Int} {oe : Option Expr} (s : Same S S') (h : EO X σ S oe o) : EO X σ S' oe o := fun H a Q q => h H (s.trans a) Q fun S2 H2 g => q (uniS S2 S') H2 (g.uni s a)
def cutD {α : Type} (xs : List α) (lo hi : Option Int) : List α := (xs.drop (HT.sIx xs.length 0 lo)).take (HT.sIx xs.length xs.length hi - HT.sIx xs.length 0 lo)
theorem cut_dts {K : PySem.W.Frag} {xs : List V} {H : Hp} {lo hi : Option Int} (h : Dts K ds xs H) : Dts K (cutD ds lo hi) (cutV xs lo hi) H := by
  unfold cutD cutV
  rw [h.1]
  refine ⟨by simp [List.length_take, List.length_drop, h.1], fun i x d hx hd => ?_⟩
  rw [List.getElem?_take] at hx hd
  split at hx
  · rename_i hlt
    rw [if_pos hlt, List.getElem?_drop] at hd
    rw [List.getElem?_drop] at hx
    exact h.2 _ x d hx hd
  · cases hx
theorem ee_slL {lo hi : Option Expr} {l u : Option Int} {p2 : Pos} (ha : EE X σ S a (Dt X.K (.list ds))) (hl : EO X σ S lo l) (hu : EO X σ S hi u) : EE X σ S (.Subscript a (.Slice lo hi none p2) pos) (Dt X.K (.list (cutD ds l u))) := fun H s Q q =>
  he_of (pe_slice sl_list peb pob pob) (ha H s _ fun v S1 H1 g1 pv => (hl.up g1.st) H1 g1.sub _ fun S2 H2 g2 => (hu.up (g1.st.trans g2.st)) H2 g2.sub _ fun S3 H3 g3 => by
    obtain ⟨l, xs, rfl, hl, hx, z⟩ := ((pv.up g2.st).up g3.st).lst_inv
    exact ⟨l, xs, rfl, sql_of (g3.sub _ _ hl), fun t ht => q _ _ _ (((g1.trans g2).trans g3).trans (Gr.new g3.sub ht)) (Dt.lst_mk upd_same ((cut_dts hx).up (Same.new (g3.sub.free ht))) (Nat.le_trans (cutV_length _ _ _) z))⟩)
theorem cutD_whole {α : Type} {xs : List α} {lo hi : Option Int} (h : HT.sIx xs.length 0 lo = 0 ∧ HT.sIx xs.length xs.length hi = xs.length) : cutD xs lo hi = xs := by
  unfold cutD
  rw [h.1, h.2]
  simp
theorem ee_slT {lo hi : Option Expr} {l u : Option Int} {p2 : Pos} (ha : EE X σ S a (Dt X.K (.tuple ds))) (hl : EO X σ S lo l) (hu : EO X σ S hi u) : EE X σ S (.Subscript a (.Slice lo hi none p2) pos) (Dt X.K (.tuple (cutD ds l u))) := fun H s Q q =>
  he_of (pe_slice sl_tupA peb pob pob) (ha H s _ fun v S1 H1 g1 pv => (hl.up g1.st) H1 g1.sub _ fun S2 H2 g2 => (hu.up (g1.st.trans g2.st)) H2 g2.sub _ fun S3 H3 g3 => by
    have pv3 := (pv.up g2.st).up g3.st
    obtain ⟨l, xs, rfl, hl, hx, z⟩ := pv3.tup_inv
    refine ⟨l, xs, rfl, sqt_up g3.sub hl, fun hw => ?_, fun _ t ht => q _ _ _ (((g1.trans g2).trans g3).trans (Gr.new g3.sub ht)) (Dt.tup_mk (sqt_of upd_same) ((cut_dts hx).up (Same.new (g3.sub.free ht))) (Nat.le_trans (cutV_length _ _ _) z))⟩
    rw [hx.1] at hw
    rw [cutD_whole hw] at q
    exact q _ _ _ ((g1.trans g2).trans g3) pv3)
/-! ### + and * of sequences -/
theorem ee_catL (hz : ds1.length + ds2.length ≤ sizeLine) (ha : EE X σ S a (Dt X.K (.list ds1))) (hb : EE X σ S b (Dt X.K (.list ds2))) : EE X σ S (.BinOp a .Add b pos) (Dt X.K (.list (ds1 ++ ds2))) :=
  ee_op op_cat ha hb fun x y S1 H1 _ s px py Q q => by
    obtain ⟨l, xs, rfl, hl, hx, _⟩ := px.lst_inv
    obtain ⟨m, ys, rfl, hm, hy, _⟩ := py.lst_inv
    have hz' : xs.length + ys.length ≤ sizeLine := by rw [hx.1, hy.1]; exact hz
    exact ⟨l, m, xs, ys, rfl, rfl, s _ _ hl, s _ _ hm, hz', fun t ht => q _ _ _ (Gr.new s ht) (Dt.lst_mk upd_same ((hx.append hy).up (Same.new (s.free ht))) (by rw [List.length_append]; exact hz'))⟩
theorem dts_nil_iff {K : PySem.W.Frag} {xs : List V} {H : Hp} (h : Dts K ds xs H) : xs = [] ↔ ds = [] := by
  have := h.1
  constructor
  · intro e; subst e; exact List.length_eq_zero_iff.mp (by simpa using this.symm)
  · intro e; subst e; exact List.length_eq_zero_iff.mp (by simpa using this)
theorem ee_catT (hz : ds1.length + ds2.length ≤ sizeLine) (ha : EE X σ S a (Dt X.K (.tuple ds1))) (hb : EE X σ S b (Dt X.K (.tuple ds2))) : EE X σ S (.BinOp a .Add b pos) (Dt X.K (.tuple (ds1 ++ ds2))) :=
  ee_op op_catA ha hb fun x y S1 H1 _ s px py Q q => by
    have px0 := px
    have py0 := py
    obtain ⟨l, xs, rfl, hl, hx, _⟩ := px.tup_inv
    obtain ⟨m, ys, rfl, hm, hy, _⟩ := py.tup_inv
    have hz' : xs.length + ys.length ≤ sizeLine := by rw [hx.1, hy.1]; exact hz
    refine ⟨l, m, xs, ys, rfl, rfl, sqt_up s hl, sqt_up s hm, hz', fun e => ?_, fun _ e => ?_, fun _ _ t ht => q _ _ _ (Gr.new s ht) (Dt.tup_mk (sqt_of upd_same) ((hx.append hy).up (Same.new (s.free ht))) (by rw [List.length_append]; exact hz'))⟩
    · rw [(dts_nil_iff hx).mp e] at q
      exact q _ _ _ (Gr.refl s) py0
    · rw [(dts_nil_iff hy).mp e, List.append_nil] at q
      exact q _ _ _ (Gr.refl s) px0
theorem ee_catS {x y : Str} (hz : x.length + y.length ≤ sizeLine) (ha : EE X σ S a (Dt X.K (.str x))) (hb : EE X σ S b (Dt X.K (.str y))) : EE X σ S (.BinOp a .Add b pos) (Dt X.K (.str (x ++ y))) :=
  ee_op op_add_str ha hb fun v w S1 H1 _ s px py Q q => by
    cases px; cases py
    exact ⟨x, y, rfl, rfl, hz, q _ S1 H1 (Gr.refl s) (.str _)⟩
theorem flat_dts {K : PySem.W.Frag} {xs : List V} {H : Hp} (f : List.replicate 0 d = []) (h : Dts K ds xs H) : ∀ (n : Nat), Dts K (List.replicate n ds).flatten (List.replicate n xs).flatten H
  | 0 => .nil
  | n + 1 => by
    rw [List.replicate_succ, List.flatten_cons, List.replicate_succ, List.flatten_cons]
    exact h.append (flat_dts f h n)
theorem flatten_len {α : Type} (xs : List α) : ∀ n : Nat, (List.replicate n xs).flatten.length = xs.length * n
  | 0 => by simp
  | n + 1 => by rw [List.replicate_succ, List.flatten_cons, List.length_append, flatten_len xs n, Nat.mul_succ]; omega
theorem ee_repL (h1 : -(2 ^ 63) ≤ i) (h2 : i < 2 ^ 63) (hz : ds.length * i.toNat ≤ sizeLine) (ha : EE X σ S a (Dt X.K (.list ds))) (hb : EE X σ S b (Dt X.K (.int i))) : EE X σ S (.BinOp a .Mult b pos) (Dt X.K (.list (List.replicate i.toNat ds).flatten)) :=
  ee_op op_rep ha hb fun x y S1 H1 _ s px py Q q => by
    cases py
    obtain ⟨l, xs, rfl, hl, hx, _⟩ := px.lst_inv
    have hz' : xs.length * i.toNat ≤ sizeLine := by rw [hx.1]; exact hz
    exact ⟨l, i, xs, rfl, rfl, s _ _ hl, h1, h2, hz', fun t ht => q _ _ _ (Gr.new s ht) (Dt.lst_mk upd_same ((flat_dts (d := .none) rfl hx _).up (Same.new (s.free ht))) (by rw [flatten_len]; exact hz'))⟩
end
end Z

namespace Z
open PySem PySem.Spec PyProof.Rows L2
/-! ## 8. what is walked -/
/-- an iterator that gives, one by one, values that have the Ps; while B stands -/
def ItP (J : It) (B : Hp) (Ps : List (V → Hp → Prop)) : Prop := Walk J Ps.length (fun H => Same B H) (fun i H x H' => ∀ S, Same B S → Same S H → ∃ S', Gr S H S' H' ∧ ∃ P, Ps[i]? = some P ∧ P x S')
def EI (X : Cx) (σ : L2.St) (S : Hp) (tg iter : Expr) (Ps : List (V → Hp → Prop)) : Prop := ∀ H, Same S H → ∀ R : It → Hp → Prop, (∀ J S' H', Gr S H S' H' → ItP J S' Ps → R J H') → HI X tg iter σ H R
section
variable {X : Cx} {σ : L2.St} {S S' : Hp} {e a b tg : Expr} {pos p : Pos} {d d1 d2 : PyData} {ds ds1 ds2 : List PyData}
theorem EI.up {Ps : List (V → Hp → Prop)} {it : Expr} (s : Same S S') (h : EI X σ S tg it Ps) : EI X σ S' tg it Ps := fun H a R q => h H (s.trans a) R fun J S2 H2 g w => q J (uniS S2 S') H2 (g.uni s a)
  ⟨fun i H hi hs => w.goes i H hi (uni_l.trans hs), fun H hs => w.stops H (uni_l.trans hs), fun i H x H' hi hs y T st th => w.yields i H x H' hi (uni_l.trans hs) y T (uni_l.trans st) th⟩
theorem ds_get {K : PySem.W.Frag} {i : Nat} (h : ds[i]? = some d) : (Ds K ds)[i]? = some (Dt K d) := by unfold Ds; rw [List.getElem?_map, h]; rfl
theorem ds_len {K : PySem.W.Frag} : (Ds K ds).length = ds.length := by unfold Ds; simp
theorem ei_list (ha : EE X σ S e (Dt X.K (.list ds))) : EI X σ S tg e (Ds X.K ds) := fun H s R q =>
  hi_of (pi_list peb) (ha H s _ fun v S1 H1 g1 pv => by
    obtain ⟨l, xs, rfl, hl, hx, z⟩ := pv.lst_inv
    refine ⟨l, rfl, ⟨xs, sql_of (g1.sub _ _ hl)⟩, q _ S1 H1 g1 ⟨fun i H hi hs => ?_, fun H hs => ?_, fun i H x H' hi hs y T st th => ?_⟩⟩
    · rw [ds_len, ← hx.1] at hi
      exact (walk_list (K := X.K) (a := l) (xs := xs)).goes i H hi (sql_of (hs _ _ hl))
    · rw [ds_len, ← hx.1]
      exact (walk_list (K := X.K) (a := l) (xs := xs)).stops H (sql_of (hs _ _ hl))
    · rw [ds_len, ← hx.1] at hi
      obtain ⟨rfl, hy⟩ := (walk_list (K := X.K) (a := l) (xs := xs)).yields i H x H' hi (sql_of (hs _ _ hl)) y
      have hi2 : i < ds.length := by rw [← hx.1]; exact hi
      exact ⟨T, Gr.refl th, _, ds_get (List.getElem?_eq_getElem hi2), (hx.2 i x _ hy (List.getElem?_eq_getElem hi2)).up st⟩)
theorem ei_tup (ha : EE X σ S e (Dt X.K (.tuple ds))) : EI X σ S tg e (Ds X.K ds) := fun H s R q =>
  hi_of (pi_tup peb) (ha H s _ fun v S1 H1 g1 pv => by
    obtain ⟨l, xs, rfl, hl, hx, z⟩ := pv.tup_inv
    refine ⟨l, rfl, ⟨xs, sqt_up g1.sub hl⟩, q _ S1 H1 g1 ⟨fun i H hi hs => ?_, fun H hs => ?_, fun i H x H' hi hs y T st th => ?_⟩⟩
    · rw [ds_len, ← hx.1] at hi
      exact (walk_tup (K := X.K) (a := l) (xs := xs)).goes i H hi (sqt_up hs hl)
    · rw [ds_len, ← hx.1]
      exact (walk_tup (K := X.K) (a := l) (xs := xs)).stops H (sqt_up hs hl)
    · rw [ds_len, ← hx.1] at hi
      obtain ⟨rfl, hy⟩ := (walk_tup (K := X.K) (a := l) (xs := xs)).yields i H x H' hi (sqt_up hs hl) y
      have hi2 : i < ds.length := by rw [← hx.1]; exact hi
      exact ⟨T, Gr.refl th, _, ds_get (List.getElem?_eq_getElem hi2), (hx.2 i x _ hy (List.getElem?_eq_getElem hi2)).up st⟩)
/-- 0, 1, .. below n -/
def upto (n : Nat) : List PyData := (List.range n).map fun i => .int (i : Nat)
theorem upto_get {n i : Nat} (h : i < n) : (upto n)[i]? = some (.int (i : Nat)) := by unfold upto; rw [List.getElem?_map, List.getElem?_range h]; rfl
theorem upto_len {n : Nat} : (upto n).length = n := by unfold upto; simp
theorem ei_range {n : Nat} (hm : X.mg "range" = none) (hn : (n : Int) < 2 ^ 62) (ha : EE X σ S a (Dt X.K (.int (n : Nat)))) (hg : Gl X "range" := by rfl) (hs : starEach [a] X.env = [(false, eval a X.env)] := by rfl) : EI X σ S tg (.Call (.Name "range" p) [a] [] pos) (Ds X.K (upto n)) := fun H s R q =>
  hi_of (pi_range1 hg hm pab hs) ((ea_1 ha (by rw [hs]; rfl)).2 H s _ fun vs S1 H1 g1 al => by
    obtain ⟨v, rfl, pv⟩ := al.one
    cases pv
    refine ⟨(n : Int), rfl, by omega, hn, q _ S1 H1 g1 ⟨fun i H hi hs => ?_, fun H hs => ?_, fun i H x H' hi hs y T st th => ?_⟩⟩
    · rw [ds_len, upto_len] at hi
      show i < ((n : Int)).toNat
      omega
    · rw [ds_len, upto_len]
      show ((n : Int)).toNat ≤ n
      omega
    · rw [ds_len, upto_len] at hi
      obtain ⟨rfl, rfl⟩ : H' = H ∧ x = .int (0 + (i : Int)) := y
      rw [Int.zero_add]
      exact ⟨T, Gr.refl th, _, ds_get (upto_get hi), .int _⟩)
/-- pairs -/
def zipD (xs ys : List PyData) : List PyData := List.zipWith (fun x y => .tuple [x, y]) xs ys
theorem zipD_get {i : Nat} {x y : PyData} (h1 : ds1[i]? = some x) (h2 : ds2[i]? = some y) : (zipD ds1 ds2)[i]? = some (.tuple [x, y]) := by
  unfold zipD
  rw [List.getElem?_zipWith, h1, h2]
theorem pair_new {K : PySem.W.Frag} {T H : Hp} {x y : V} {t : Addr} (th : Same T H) (ht : H t = none) (h1 : Dt K d1 x T) (h2 : Dt K d2 y T) : Dt K (.tuple [d1, d2]) (.ref t) (upd T t (.tup [x, y])) :=
  Dt.tup_mk (sqt_of upd_same) ((Dts.cons h1 (Dts.cons h2 .nil)).up (Same.new (th.free ht))) (by show 2 ≤ 16777216; decide)
theorem ei_zipT {elts : List Expr} {kk : Nat} {tpos : Pos} (hm : X.mg "zip" = none) (ha : EE X σ S a (Dt X.K (.tuple ds1))) (hb : EE X σ S b (Dt X.K (.tuple ds2))) (hg : Gl X "zip" := by rfl)
    (hs : starEach [a, b] X.env = (false, eval a X.env) :: starEach [b] X.env := by rfl) (hs2 : starEach [b] X.env = (false, eval b X.env) :: starEach [] X.env := by rfl) (hpl : (backTo pos (starEach [b] X.env)).any (·.1) = false := by rfl) :
    EI X σ S (.Tuple elts kk tpos) (.Call (.Name "zip" p) [a, b] [] pos) (Ds X.K (zipD ds1 ds2)) := fun H s R q =>
  hi_of (RZ.pi_zipA hg hm pab hs hpl) ((ea_2 ha hb hs hs2).2 H s _ fun vs S1 H1 g1 al => by
    obtain ⟨v, w, rfl, pv, pw⟩ := al.two
    obtain ⟨l, xs, rfl, hl, hx, _⟩ := pv.tup_inv
    obtain ⟨m, ys, rfl, hm, hy, _⟩ := pw.tup_inv
    have hlen : (Ds X.K (zipD ds1 ds2)).length = min xs.length ys.length := by rw [ds_len]; unfold zipD; rw [List.length_zipWith, hx.1, hy.1]
    refine ⟨l, m, xs, ys, rfl, .inr ⟨sqt_up g1.sub hl, sqt_up g1.sub hm, q _ S1 H1 g1 ⟨fun i H hi hs => ?_, fun H hs => ?_, fun i H x H' hi hs y T st th => ?_⟩⟩⟩
    · rw [hlen] at hi
      exact ⟨xs, ys, xs[i]'(by omega), ys[i]'(by omega), sqt_up hs hl, sqt_up hs hm, by simp [show i < xs.length by omega], by simp [show i < ys.length by omega]⟩
    · rw [hlen]
      exact ⟨xs, ys, sqt_up hs hl, sqt_up hs hm, by omega⟩
    · rw [hlen] at hi
      obtain ⟨t, x1, y1, rfl, ht, rfl, k1, k2⟩ := y
      have i1 : i < ds1.length := by rw [← hx.1]; omega
      have i2 : i < ds2.length := by rw [← hy.1]; omega
      exact ⟨_, Gr.new th ht, _, ds_get (zipD_get (List.getElem?_eq_getElem i1) (List.getElem?_eq_getElem i2)), pair_new th ht ((hx.2 i _ _ (k1 xs (sqt_up hs hl)) (List.getElem?_eq_getElem i1)).up st) ((hy.2 i _ _ (k2 ys (sqt_up hs hm)) (List.getElem?_eq_getElem i2)).up st)⟩)
theorem ei_zipL {elts : List Expr} {kk : Nat} {tpos : Pos} (hm : X.mg "zip" = none) (ha : EE X σ S a (Dt X.K (.list ds1))) (hb : EE X σ S b (Dt X.K (.list ds2))) (hg : Gl X "zip" := by rfl)
    (hs : starEach [a, b] X.env = (false, eval a X.env) :: starEach [b] X.env := by rfl) (hs2 : starEach [b] X.env = (false, eval b X.env) :: starEach [] X.env := by rfl) (hpl : (backTo pos (starEach [b] X.env)).any (·.1) = false := by rfl) :
    EI X σ S (.Tuple elts kk tpos) (.Call (.Name "zip" p) [a, b] [] pos) (Ds X.K (zipD ds1 ds2)) := fun H s R q =>
  hi_of (RZ.pi_zipA hg hm pab hs hpl) ((ea_2 ha hb hs hs2).2 H s _ fun vs S1 H1 g1 al => by
    obtain ⟨v, w, rfl, pv, pw⟩ := al.two
    obtain ⟨l, xs, rfl, hl, hx, _⟩ := pv.lst_inv
    obtain ⟨m, ys, rfl, hm, hy, _⟩ := pw.lst_inv
    have hlen : (Ds X.K (zipD ds1 ds2)).length = min xs.length ys.length := by rw [ds_len]; unfold zipD; rw [List.length_zipWith, hx.1, hy.1]
    refine ⟨l, m, xs, ys, rfl, .inl ⟨sql_of (g1.sub _ _ hl), sql_of (g1.sub _ _ hm), q _ S1 H1 g1 ⟨fun i H hi hs => ?_, fun H hs => ?_, fun i H x H' hi hs y T st th => ?_⟩⟩⟩
    · rw [hlen] at hi
      exact ⟨xs, ys, xs[i]'(by omega), ys[i]'(by omega), sql_of (hs _ _ hl), sql_of (hs _ _ hm), by simp [show i < xs.length by omega], by simp [show i < ys.length by omega]⟩
    · rw [hlen]
      exact ⟨xs, ys, sql_of (hs _ _ hl), sql_of (hs _ _ hm), by omega⟩
    · rw [hlen] at hi
      obtain ⟨t, x1, y1, rfl, ht, rfl, k1, k2⟩ := y
      have i1 : i < ds1.length := by rw [← hx.1]; omega
      have i2 : i < ds2.length := by rw [← hy.1]; omega
      exact ⟨_, Gr.new th ht, _, ds_get (zipD_get (List.getElem?_eq_getElem i1) (List.getElem?_eq_getElem i2)), pair_new th ht ((hx.2 i _ _ (k1 xs (sql_of (hs _ _ hl))) (List.getElem?_eq_getElem i1)).up st) ((hy.2 i _ _ (k2 ys (sql_of (hs _ _ hm))) (List.getElem?_eq_getElem i2)).up st)⟩)
def enumD (xs : List PyData) : List PyData := zipD (upto xs.length) xs
theorem ei_enumL {elts : List Expr} {kk : Nat} {tpos : Pos} (hm : X.mg "enumerate" = none) (ha : EE X σ S a (Dt X.K (.list ds))) (hg : Gl X "enumerate" := by rfl) (hs : starEach [a] X.env = [(false, eval a X.env)] := by rfl) :
    EI X σ S (.Tuple elts kk tpos) (.Call (.Name "enumerate" p) [a] [] pos) (Ds X.K (enumD ds)) := fun H s R q =>
  hi_of (pi_enum hg hm pab hs) ((ea_1 ha (by rw [hs]; rfl)).2 H s _ fun vs S1 H1 g1 al => by
    obtain ⟨v, rfl, pv⟩ := al.one
    obtain ⟨l, xs, rfl, hl, hx, _⟩ := pv.lst_inv
    have hlen : (Ds X.K (enumD ds)).length = xs.length := by rw [ds_len]; unfold enumD zipD; rw [List.length_zipWith, upto_len, hx.1]; omega
    refine ⟨l, xs, rfl, sql_of (g1.sub _ _ hl), q _ S1 H1 g1 ⟨fun i H hi hs => ?_, fun H hs => ?_, fun i H x H' hi hs y T st th => ?_⟩⟩
    · rw [hlen] at hi
      exact ⟨xs, xs[i], sql_of (hs _ _ hl), by simp [hi]⟩
    · rw [hlen]
      exact ⟨xs, sql_of (hs _ _ hl), Nat.le_refl _⟩
    · rw [hlen] at hi
      obtain ⟨t, x1, rfl, ht, rfl, k1⟩ := y
      have i1 : i < ds.length := by rw [← hx.1]; omega
      exact ⟨_, Gr.new th ht, _, ds_get (zipD_get (upto_get i1) (List.getElem?_eq_getElem i1)), pair_new th ht (.int _) ((hx.2 i _ _ (k1 xs (sql_of (hs _ _ hl))) (List.getElem?_eq_getElem i1)).up st)⟩)
def strD (z : Str) : List PyData := z.cps.toList.map fun c => .str ⟨#[c]⟩
theorem ei_str {z : Str} (ha : EE X σ S e (Dt X.K (.str z))) (he : PI X tg e (iStr (bE X e)) := by exact pi_str peb) : EI X σ S tg e (Ds X.K (strD z)) := fun H s R q =>
  hi_of he (ha H s _ fun v S1 H1 g1 pv => by
    cases pv
    have hlen : (Ds X.K (strD z)).length = z.cps.size := by rw [ds_len]; unfold strD; simp
    refine ⟨z, rfl, q _ S1 H1 g1 ⟨fun i H hi hs => ?_, fun H hs => ?_, fun i H x H' hi hs y T st th => ?_⟩⟩
    · rw [hlen] at hi; exact hi
    · rw [hlen]; exact Nat.le_refl _
    · rw [hlen] at hi
      obtain ⟨rfl, c, hc, rfl⟩ := y
      refine ⟨T, Gr.refl th, _, ds_get (d := .str ⟨#[c]⟩) ?_, .str _⟩
      unfold strD
      rw [List.getElem?_map, Array.getElem?_toList, hc]
      rfl)
end
/-! ## 9. list comprehensions -/
def Ex (K : PySem.W.Frag) (F : PyData → Prop) : V → Hp → Prop := fun v S => ∃ d, F d ∧ Dt K d v S
instance {K : PySem.W.Frag} {F : PyData → Prop} : Mn (Ex K F) := ⟨fun s ⟨d, f, h⟩ => ⟨d, f, h.up s⟩⟩
def HTs (X : Cx) (ifs : List Expr) (σ : L2.St) (H : Hp) (Q : Bool → Hp → Prop) : Prop := ∀ (pins : List (Addr × Obj)) (s : Shared), Inv X pins σ H s →
    wpAny (model X.prog X.w) X.A (forIn ifs true fun c r => if r = true then do let ok ← isTrue c X.env (eval c X.env); pure (ForInStep.yield ok) else pure (ForInStep.yield r)) (TP X pins σ Q) X.xe s
def ETs (X : Cx) (σ : L2.St) (S : Hp) (ifs : List Expr) (b : Bool) : Prop := ∀ H, Same S H → ∀ Q : Bool → Hp → Prop, (∀ S' H', Gr S H S' H' → Q b H') → HTs X ifs σ H Q
theorem ets_nil {X : Cx} {σ : L2.St} {S : Hp} : ETs X σ S [] true := fun H s Q q pins sh I => pts_nil.run pins sh σ H Q I (q S H (Gr.refl s))
theorem ets_one {X : Cx} {σ : L2.St} {S : Hp} {c : Expr} {b : Bool} (h : ET X σ S c b) : ETs X σ S [c] b := fun H s Q q pins sh I => (pts_one ptb).run pins sh σ H Q I (h H s Q q)
/-- a target that takes the value: the slots behind -/
def EG (X : Cx) (S : Hp) (tg : Expr) (v : V) (σ τ : L2.St) : Prop := ∀ H, Same S H → ∀ Q : L2.St → Hp → Prop, Q τ H → HG X tg v σ H Q
theorem eg_name {X : Cx} {S : Hp} {v : V} {σ : L2.St} {i : Nat} {x : Str} {pos : Pos} (hN : X.N.Nodup) (hi : X.N[i]? = some x) (hx : Loc X.env.scope x) (hf : X.fn x = true ∨ X.env.scope.names.lookup x = some .local := by first | exact .inl rfl | exact .inr rfl | assumption) : EG X S (.Name x pos) v σ (σ.set i (some v)) := fun H _ Q q => hg_of (pg_name hN hi hx hf) q
/-- two names from a pair -/
theorem eg_pair {X : Cx} {S : Hp} {d1 d2 : PyData} {v : V} {σ : L2.St} {i j : Nat} {x y : Str} {px py pos : Pos} {kk : Nat} (hc : X.calm = true) (hN : X.N.Nodup) (hi : X.N[i]? = some x) (hj : X.N[j]? = some y) (hx : Loc X.env.scope x) (hy : Loc X.env.scope y) (h : Dt X.K (.tuple [d1, d2]) v S)
    (hfx : X.fn x = true ∨ X.env.scope.names.lookup x = some .local := by first | exact .inl rfl | exact .inr rfl) (hfy : X.fn y = true ∨ X.env.scope.names.lookup y = some .local := by first | exact .inl rfl | exact .inr rfl)
    (hn : (assignEach [.Name x px, .Name y py] X.env).length = 2 := by rfl) (hst : (assignEach [.Name x px, .Name y py] X.env).findIdx? (·.1) = none := by rfl)
    (h1 : (assignEach [.Name x px, .Name y py] X.env).map (·.2) = assign (.Name x px) X.env :: (assignEach [.Name y py] X.env).map (·.2) := by rfl) (h2 : (assignEach [.Name y py] X.env).map (·.2) = assign (.Name y py) X.env :: (assignEach [] X.env).map (·.2) := by rfl) :
    ∃ v1 v2, Dt X.K d1 v1 S ∧ Dt X.K d2 v2 S ∧ EG X S (.Tuple [.Name x px, .Name y py] kk pos) v σ ((σ.set i (some v1)).set j (some v2)) := by
  obtain ⟨l, xs, rfl, hl, hx', _⟩ := h.tup_inv
  obtain ⟨v1, e1, p1⟩ := hx'.get (i := 0) rfl
  obtain ⟨v2, e2, p2⟩ := hx'.get (i := 1) rfl
  have hxs : xs = [v1, v2] := by
    have hl2 := hx'.1
    match xs, hl2 with
    | [u, w], _ => simp at e1 e2; rw [e1, e2]
  subst hxs
  exact ⟨v1, v2, p1, p2, fun H s Q q => hg_of (pg_tup hc (pgs_cons (pg_name hN hi hx hfx) (pgs_cons (pg_name hN hj hy hfy) pgs_nil h2) h1) hn hst) ⟨l, _, rfl, sqt_up s hl, rfl, _, _, rfl, _, _, rfl, rfl, q⟩⟩
theorem paired_snoc {α β : Type} {G : α → β → Prop} : ∀ {l : List α} {r : List β} {x : α} {y : β}, Paired G l r → G x y → Paired G (l ++ [x]) (r ++ [y])
  | _, _, _, _, .nil, h => .cons h .nil
  | _, _, _, _, .cons g t, h => .cons g (paired_snoc t h)
theorem paired_map {α β : Type} {f : α → β} : ∀ {l : List α} {r : List β}, Paired (fun a b => b = f a) l r → r = l.map f
  | _, _, .nil => rfl
  | _, _, .cons g t => by rw [g, paired_map t]; rfl
theorem take_snoc {α : Type} {l : List α} {i : Nat} {x : α} (h : l[i]? = some x) : l.take (i + 1) = l.take i ++ [x] := by
  rw [List.take_add_one, h]
  rfl
def gBlk (X : Cx) (scope : Scope) (tg : Expr) : TG := fun v σ' H' Q' => ∀ (s : Shared) (H0 : Hp) (C : Addr) (cl : List (Str × Addr)) (fp : List Addr), HG (X.blk s H0 scope (compEnvC scope cl C X.env) fp) tg v σ' H' Q'
def tBlk (X : Cx) (scope : Scope) (ifs : List Expr) : TT := fun σ' H' Q' => ∀ (s : Shared) (H0 : Hp) (C : Addr) (cl : List (Str × Addr)) (fp : List Addr), HTs (X.blk s H0 scope (compEnvC scope cl C X.env) fp) ifs σ' H' Q'
def eBlk (X : Cx) (scope : Scope) (e : Expr) : TE := fun σ' H' Q' => ∀ (s : Shared) (H0 : Hp) (C : Addr) (cl : List (Str × Addr)) (fp : List Addr), HE (X.blk s H0 scope (compEnvC scope cl C X.env) fp) e σ' H' Q'
section
variable {X : Cx} {σ : L2.St} {S : Hp} {elt tg iter : Expr} {ifs : List Expr} {scope : Scope} {own : List (Str × Nat)} {pos : Pos} {ds : List PyData} {p : PyData → Bool} {G : PyData → PyData → Prop}
theorem lc_loopG (hz : ds.length ≤ sizeLine)
    (hel : ∀ d ∈ ds, ∀ v S', Same S S' → Dt X.K d v S' → ∃ τ, wipe τ (own.map (·.2)) = wipe σ (own.map (·.2)) ∧ ∀ (s : Shared) (H0 : Hp) (C : Addr) (cl : List (Str × Addr)) (fp : List Addr),
      EG (X.blk s H0 scope (compEnvC scope cl C X.env) fp) S' tg v (wipe σ (own.map (·.2))) τ ∧ ETs (X.blk s H0 scope (compEnvC scope cl C X.env) fp) τ S' ifs (p d) ∧ (p d = true → EE (X.blk s H0 scope (compEnvC scope cl C X.env) fp) τ S' elt (Ex X.K (G d)))) {H : Hp} (Q : VK) (q : ∀ v S' H', Gr S H S' H' → (∃ rs, Paired G (ds.filter p) rs ∧ Dt X.K (.list rs) v S') → Q v H') {J : It} {S1 H1 : Hp} (g1 : Gr S H S1 H1) (it : ItP J S1 (Ds X.K ds)) :
    ∀ D, H1 D = none → ∃ W : Nat → Nat → Hp → Prop, (∃ m, W 0 m (upd H1 D (.lst []))) ∧ ∀ i m H, W i m H →
      (J.stop i H ∧ Q (.ref D) H) ∨ (J.go i H ∧ ∃ Nx : Hp → Prop, (∀ H', Nx H' → ∃ m', m' < m ∧ W (i + 1) m' H') ∧ ∀ x H', J.yld i H x H' → gBlk X scope tg x (wipe σ (own.map (·.2))) H' fun σ2 H2 => wipe σ2 (own.map (·.2)) = wipe σ (own.map (·.2)) ∧ tBlk X scope ifs σ2 H2 fun b H3 =>
        if b = true then eBlk X scope elt σ2 H3 fun y H4 => ∃ acc, H4 D = some (.lst acc) ∧ acc.length < sizeLine ∧ Nx (upd H4 D (.lst (acc ++ [y]))) else Nx H3) := by
  intro D hD
  have hD1 : S1 D = none := g1.sub.free hD
  have hlen : (Ds X.K ds).length = ds.length := ds_len
  refine lc_it (g := gBlk X scope tg) (tt := tBlk X scope ifs) (te := eBlk X scope elt) (vs := own.map (·.2)) (σ := σ) (Qd := Q (.ref D)) it (fun i H' => ∃ S' xs rs, Same S1 S' ∧ Same S' H' ∧ Same H1 H' ∧ (∀ a o, H1 a = some o → S' a = S1 a) ∧ S' D = none ∧ H' D = some (.lst xs) ∧ Paired G ((ds.take i).filter p) rs ∧ Dts X.K rs xs S' ∧ xs.length ≤ i)
    ⟨S1, [], [], Same.refl _, Same.mut g1.sub hD1, Same.new hD, fun _ _ _ => rfl, hD1, upd_same, .nil, .nil, Nat.le_refl _⟩ (fun i H' _ ⟨S', _, _, a, b, _⟩ => a.trans b) ?_ ?_
  · intro i x H2 H3 hi2 ⟨S2, xs, rs, k1, k2, k3, k4, k5, k6, k7, k8, k9⟩ y
    rw [hlen] at hi2
    obtain ⟨S3, g3, P, hP, px⟩ := y S2 k1 k2
    obtain ⟨d, hd⟩ : ∃ d, ds[i]? = some d := ⟨ds[i], List.getElem?_eq_getElem hi2⟩
    rw [ds_get hd] at hP
    obtain rfl := Option.some.inj hP
    have sS3 : Same S S3 := g1.st.trans (k1.trans g3.st)
    obtain ⟨τ, hw, hb⟩ := hel d (List.mem_of_getElem? hd) x S3 sS3 px
    have hf : ∀ q, p d = q → (ds.take (i + 1)).filter p = (ds.take i).filter p ++ (if q = true then [d] else []) := fun q hq => by
      rw [take_snoc hd, List.filter_append]
      cases q with
      | true => simp [hq]
      | false => simp [hq]
    intro sh H0 C cl fp
    refine (hb sh H0 C cl fp).1 H3 g3.sub _ ⟨hw, ?_⟩
    intro sh' H0' C' cl' fp'
    refine (hb sh' H0' C' cl' fp').2.1 H3 g3.sub _ fun S4 H4 g4 => ?_
    have g34 := g3.trans g4
    cases hpd : p d with
    | false =>
      refine iteF ⟨S4, xs, rs, k1.trans g34.st, g34.sub, k3.trans g34.hh, fun a o h => (g34.old a o (k3 a o h)).trans (k4 a o h), (g34.old D _ k6).trans k5, g34.hh _ _ k6, ?_, k8.up g34.st, by omega⟩
      rw [hf false hpd]
      simpa using k7
    | true =>
      refine iteT ?_
      intro sh'' H0'' C'' cl'' fp''
      refine ((hb sh'' H0'' C'' cl'' fp'').2.2 hpd).up g4.st H4 g4.sub _ fun w S5 H5 g5 ⟨r, hr, hrw⟩ => ?_
      have g := g34.trans g5
      have hD5 : S5 D = none := (g.old D _ k6).trans k5
      refine ⟨xs, g.hh _ _ k6, Nat.lt_of_le_of_lt k9 (Nat.lt_of_lt_of_le hi2 hz), S5, xs ++ [w], rs ++ [r], k1.trans g.st, Same.mut g.sub hD5, fun a o h => ?_, fun a o h => (g.old a o (k3 a o h)).trans (k4 a o h), hD5, upd_same, ?_, (k8.up g.st).snoc hrw, by rw [List.length_append]; show xs.length + 1 ≤ i + 1; omega⟩
      · rw [upd_ne (ne_of_none h hD)]; exact g.hh _ _ (k3 a o h)
      · rw [hf true hpd]
        exact paired_snoc k7 hr
  · intro H2 ⟨S2, xs, rs, k1, k2, k3, k4, k5, k6, k7, k8, k9⟩
    rw [hlen] at k7 k9
    rw [List.take_length] at k7
    refine q _ (upd S2 D (.lst xs)) H2 (g1.trans ⟨k1.trans (Same.new k5), fun a o h => ?_, k3, fun a o h => by rw [upd_ne (ne_of_none h hD)]; exact k4 a o h⟩) ⟨rs, k7, Dt.lst_mk upd_same (k8.up (Same.new k5)) (Nat.le_trans k9 hz)⟩
    by_cases ha : a = D
    · subst ha; rw [upd_same] at h; rw [k6]; exact h
    · rw [upd_ne ha] at h; exact k2 a o h
theorem lc_readG (hi : EI X σ S tg iter (Ds X.K ds)) (hz : ds.length ≤ sizeLine)
    (hel : ∀ d ∈ ds, ∀ v S', Same S S' → Dt X.K d v S' → ∃ τ, wipe τ (own.map (·.2)) = wipe σ (own.map (·.2)) ∧ ∀ (s : Shared) (H0 : Hp) (C : Addr) (cl : List (Str × Addr)) (fp : List Addr),
      EG (X.blk s H0 scope (compEnvC scope cl C X.env) fp) S' tg v (wipe σ (own.map (·.2))) τ ∧ ETs (X.blk s H0 scope (compEnvC scope cl C X.env) fp) τ S' ifs (p d) ∧ (p d = true → EE (X.blk s H0 scope (compEnvC scope cl C X.env) fp) τ S' elt (Ex X.K (G d)))) {H : Hp} (s : Same S H) (Q : VK) (q : ∀ v S' H', Gr S H S' H' → (∃ rs, Paired G (ds.filter p) rs ∧ Dt X.K (.list rs) v S') → Q v H') :
    tLc (bI X tg iter) (gBlk X scope tg) (tBlk X scope ifs) (eBlk X scope elt) (own.map (·.2)) σ H Q := hi H s _ fun J S1 H1 g1 it => lc_loopG hz hel Q q g1 it
theorem ee_lcG (hc : X.calm = true) (hN : X.N.Nodup) (ok : BlkOk X.N X.env.scope scope own) (hi : EI X σ S tg iter (Ds X.K ds)) (hz : ds.length ≤ sizeLine)
    (hel : ∀ d ∈ ds, ∀ v S', Same S S' → Dt X.K d v S' → ∃ τ, wipe τ (own.map (·.2)) = wipe σ (own.map (·.2)) ∧ ∀ (s : Shared) (H0 : Hp) (C : Addr) (cl : List (Str × Addr)) (fp : List Addr),
      EG (X.blk s H0 scope (compEnvC scope cl C X.env) fp) S' tg v (wipe σ (own.map (·.2))) τ ∧ ETs (X.blk s H0 scope (compEnvC scope cl C X.env) fp) τ S' ifs (p d) ∧ (p d = true → EE (X.blk s H0 scope (compEnvC scope cl C X.env) fp) τ S' elt (Ex X.K (G d))))
    (hs : ∀ x, foldedSetIterable iter X.env x = pure x := by intro _; rfl) :
    EE X σ S (.ListComp elt [⟨tg, iter, ifs, 0⟩] scope pos) (fun v S' => ∃ rs, Paired G (ds.filter p) rs ∧ Dt X.K (.list rs) v S') := fun H s Q q =>
  he_of (pe_lc (own := own) (wi := bI X tg iter) (g := gBlk X scope tg) (tt := tBlk X scope ifs) (te := eBlk X scope elt) hc hN pib ok
    (fun s H0 C cl fp => ⟨fun pins sh σ' H' v u Q' I r h => h s H0 C cl fp pins sh u I r⟩) (fun s H0 C cl fp => ⟨fun pins sh σ' H' Q' I h => h s H0 C cl fp pins sh I⟩) (fun s H0 C cl fp => ⟨fun pins sh σ' H' Q' I h => h s H0 C cl fp pins sh I⟩) hs) (lc_readG hi hz hel s Q q)
/-- name = [..] on one line, the name a local -/
theorem hs_setLcG {D : Ends} {rest : List Stmt} {i : Nat} {y : Str} {py spos : Pos} {H : Hp} (hc : X.calm = true) (hN : X.N.Nodup) (hy : X.N[i]? = some y) (hyl : X.env.scope.names.lookup y = some .local)
    (hsw : swapsWith (.ListComp elt [⟨tg, iter, ifs, 0⟩] scope pos) (some (.Name y py)) spos.line X.env = pure true) (ok : BlkOk X.N X.env.scope scope own) (hi : EI X σ S tg iter (Ds X.K ds)) (hz : ds.length ≤ sizeLine)
    (hel : ∀ d ∈ ds, ∀ v S', Same S S' → Dt X.K d v S' → ∃ τ, wipe τ (own.map (·.2)) = wipe σ (own.map (·.2)) ∧ ∀ (s : Shared) (H0 : Hp) (C : Addr) (cl : List (Str × Addr)) (fp : List Addr),
      EG (X.blk s H0 scope (compEnvC scope cl C X.env) fp) S' tg v (wipe σ (own.map (·.2))) τ ∧ ETs (X.blk s H0 scope (compEnvC scope cl C X.env) fp) τ S' ifs (p d) ∧ (p d = true → EE (X.blk s H0 scope (compEnvC scope cl C X.env) fp) τ S' elt (Ex X.K (G d)))) (s : Same S H)
    (q : ∀ v S' H', Gr S H S' H' → (∃ rs, Paired G (ds.filter p) rs ∧ Dt X.K (.list rs) v S') → HS X D rest (σ.set i (some v)) H')
    (hs : ∀ x, foldedSetIterable iter X.env x = pure x := by intro _; rfl) : HS X D (.Assign [.Name y py] (.ListComp elt [⟨tg, iter, ifs, 0⟩] scope pos) spos :: rest) σ H :=
  hs_of (pss_cons (ps_setLc (i := i) (own := own) (wi := bI X tg iter) (g := gBlk X scope tg) (tt := tBlk X scope ifs) (te := eBlk X scope elt) hc hN hy hyl hsw pib ok
    (fun s H0 C cl fp => ⟨fun pins sh σ' H' v u Q' I r h => h s H0 C cl fp pins sh u I r⟩) (fun s H0 C cl fp => ⟨fun pins sh σ' H' Q' I h => h s H0 C cl fp pins sh I⟩) (fun s H0 C cl fp => ⟨fun pins sh σ' H' Q' I h => h s H0 C cl fp pins sh I⟩) hs) psb) (lc_readG hi hz hel s _ q)
/-- each item by a function, under a test -/
theorem fun_of_G {f : PyData → PyData} {v : V} {S' : Hp} {K : PySem.W.Frag} (h : ∃ rs, Paired (fun d r => r = f d) (ds.filter p) rs ∧ Dt K (.list rs) v S') : Dt K (.list ((ds.filter p).map f)) v S' := by
  obtain ⟨rs, h1, h2⟩ := h
  rw [paired_map h1] at h2
  exact h2
end
end Z

namespace Z
open PySem PySem.Spec PyProof.Rows L2
/-! ## 10. statements -/
section
variable {X : Cx} {σ : L2.St} {S H : Hp} {e a b c : Expr} {P : V → Hp → Prop} {pos p : Pos} {D : Ends} {rest body orelse : List Stmt} {k : Bool} {st : Stmt} {d d1 d2 : PyData} {ds : List PyData}
theorem hs_cons {t : TS} (h : PS X st t) (q : t { D with nx := fun σ' H' => HS X D rest σ' H' } σ H) : HS X D (st :: rest) σ H := hs_of (pss_cons h psb) q
theorem hs_nil (q : D.nx σ H) : HS X D [] σ H := hs_of pss_nil q
theorem hs_pass (q : HS X D rest σ H) : HS X D (.Pass pos :: rest) σ H := hs_cons ps_pass q
theorem hs_brk (q : D.bk σ H) : HS X D (.Break pos :: rest) σ H := hs_cons ps_break q
theorem hs_cont (q : D.ct σ H) : HS X D (.Continue pos :: rest) σ H := hs_cons ps_continue q
theorem hs_set {i : Nat} {x : Str} {pos' : Pos} (h : EE X σ S e P) (s : Same S H) (hN : X.N.Nodup) (q : ∀ v S' H', Gr S H S' H' → P v S' → HS X D rest (σ.set i (some v)) H') (hi : X.N[i]? = some x := by rfl) (hx : Loc X.env.scope x := by first | exact Or.inl rfl | exact Or.inr rfl)
    (hs : swapsWith e (some (.Name x pos')) pos.line X.env = pure false := by rfl) (hf : X.fn x = true ∨ X.env.scope.names.lookup x = some .local := by first | exact .inl rfl | exact .inr rfl | assumption) : HS X D (.Assign [.Name x pos'] e pos :: rest) σ H :=
  hs_cons (ps_set hN hi hx peb hs hf) (h H s _ fun v S' H' g pv => q v S' H' g pv)
theorem hs_ret (h : EE X σ S e P) (s : Same S H) (q : ∀ v S' H', Gr S H S' H' → P v S' → D.rt v H') : HS X D (.Return (some e) pos :: rest) σ H := hs_cons (ps_ret peb) (h H s _ q)
theorem hs_retN (q : D.rt .non H) : HS X D (.Return none pos :: rest) σ H := hs_cons ps_retN q
theorem hs_expr (h : EE X σ S e P) (s : Same S H) (q : ∀ v S' H', Gr S H S' H' → P v S' → HS X D rest σ H') (hs : swapsWith e none pos.line X.env = pure false := by rfl) : HS X D (.Expr e pos :: rest) σ H := hs_cons (ps_expr peb hs) (h H s _ q)
/-- the ends of a block that stands ahead of rest -/
def Dn (X : Cx) (D : Ends) (rest : List Stmt) : Ends := { D with nx := fun σ' H' => HS X D rest σ' H' }
theorem hs_if (h : ET X σ S c k) (s : Same S H) (qt : k = true → ∀ S' H', Gr S H S' H' → HS X (Dn X D rest) body σ H') (qf : k = false → ∀ S' H', Gr S H S' H' → HS X (Dn X D rest) orelse σ H') : HS X D (.If c body orelse pos :: rest) σ H :=
  hs_cons (ps_if ptb psb psb) (h H s _ fun S' H' g => by
    cases k with
    | true => exact iteT (qt rfl S' H' g)
    | false => exact iteF (qf rfl S' H' g))
theorem hs_ifT (h : ET X σ S c true) (s : Same S H) (q : ∀ S' H', Gr S H S' H' → HS X (Dn X D rest) body σ H') : HS X D (.If c body orelse pos :: rest) σ H := hs_if h s (fun _ => q) (fun z => nomatch z)
/-- not taken, and there is no else -/
theorem hs_ifN (h : ET X σ S c false) (s : Same S H) (q : ∀ S' H', Gr S H S' H' → HS X D rest σ H') : HS X D (.If c body [] pos :: rest) σ H := hs_if h s (fun z => nomatch z) (fun _ S' H' g => hs_nil (q S' H' g))
theorem hs_ifF (h : ET X σ S c false) (s : Same S H) (q : ∀ S' H', Gr S H S' H' → HS X (Dn X D rest) orelse σ H') : HS X D (.If c body orelse pos :: rest) σ H := hs_if h s (fun z => nomatch z) (fun _ => q)
theorem mn_eq {v : V} : Mn (fun (w : V) (_ : Hp) => w = v) := ⟨fun _ h => h⟩
/-- a, b = x, y with plain names -/
theorem hs_par {i j : Nat} {x y : Str} {Pa Pb : V → Hp → Prop} [Mn Pa] [Mn Pb] {px py pt : Pos} {kt k2 pt2} (hc : X.calm = true) (hN : X.N.Nodup) (ha : EE X σ S a Pa) (hb : EE X σ S b Pb) (s : Same S H)
    (hw : swappedStores [.Tuple [.Name x px, .Name y py] kt pt] (.Tuple [a, b] k2 pt2) X.env = pure (some [x, y]))
    (q : ∀ v w S' H', Gr S H S' H' → Pa v S' → Pb w S' → HS X D rest ((σ.set i (some v)).set j (some w)) H')
    (hi : X.N[i]? = some x := by rfl) (hj : X.N[j]? = some y := by rfl) (hij : i ≠ j := by decide) (hx : X.env.scope.names.lookup x = some .local := by rfl) (hy : X.env.scope.names.lookup y = some .local := by rfl)
    (hs : starEach [a, b] X.env = (false, eval a X.env) :: starEach [b] X.env := by rfl) (hs2 : starEach [b] X.env = (false, eval b X.env) :: starEach [] X.env := by rfl)
    (hss : swapsWithSole [.Tuple [.Name x px, .Name y py] kt pt] (.Tuple [a, b] k2 pt2) pos.line X.env = pure false := by rfl) : HS X D (.Assign [.Tuple [.Name x px, .Name y py] kt pt] (.Tuple [a, b] k2 pt2) pos :: rest) σ H :=
  hs_cons (ps_par hc hN hi hj hij hx hy pab hw hss) ((ea_2 ha hb hs hs2).2 H s _ fun vs S' H' g al => by
    obtain ⟨v, w, rfl, p1, p2⟩ := al.two
    exact ⟨v, w, rfl, q v w S' H' g p1 p2⟩)
/-- a, b, c = x, y, z with plain names -/
theorem hs_par3 {i j l : Nat} {x y z : Str} {Pa Pb Pc : V → Hp → Prop} [Mn Pa] [Mn Pb] [Mn Pc] {px py pz pt : Pos} {kt k2 pt2} (hc : X.calm = true) (hN : X.N.Nodup) (ha : EE X σ S a Pa) (hb : EE X σ S b Pb) (hcc : EE X σ S c Pc) (s : Same S H)
    (hw : swappedStores [.Tuple [.Name x px, .Name y py, .Name z pz] kt pt] (.Tuple [a, b, c] k2 pt2) X.env = pure (some [x, y, z]))
    (q : ∀ v w u S' H', Gr S H S' H' → Pa v S' → Pb w S' → Pc u S' → HS X D rest (((σ.set i (some v)).set j (some w)).set l (some u)) H')
    (hi : X.N[i]? = some x := by rfl) (hj : X.N[j]? = some y := by rfl) (hl : X.N[l]? = some z := by rfl) (hij : i ≠ j := by decide) (hil : i ≠ l := by decide) (hjl : j ≠ l := by decide)
    (hx : X.env.scope.names.lookup x = some .local := by rfl) (hy : X.env.scope.names.lookup y = some .local := by rfl) (hz : X.env.scope.names.lookup z = some .local := by rfl)
    (hs : starEach [a, b, c] X.env = (false, eval a X.env) :: starEach [b, c] X.env := by rfl) (hs2 : starEach [b, c] X.env = (false, eval b X.env) :: starEach [c] X.env := by rfl) (hs3 : starEach [c] X.env = (false, eval c X.env) :: starEach [] X.env := by rfl)
    (hss : swapsWithSole [.Tuple [.Name x px, .Name y py, .Name z pz] kt pt] (.Tuple [a, b, c] k2 pt2) pos.line X.env = pure false := by rfl) : HS X D (.Assign [.Tuple [.Name x px, .Name y py, .Name z pz] kt pt] (.Tuple [a, b, c] k2 pt2) pos :: rest) σ H :=
  hs_cons (ps_par3 hc hN hi hj hl hij hil hjl hx hy hz pab hw hss) ((ea_cons ha (ea_2 hb hcc hs2 hs3) hs).2 H s _ fun vs S' H' g al => by
    obtain ⟨v, w, u, rfl, p1, p2, p3⟩ := al.three
    exact ⟨v, w, u, rfl, q v w u S' H' g p1 p2 p3⟩)
/-- a, b = e, e a pair -/
theorem hs_unpack {i j : Nat} {x y : Str} {px py pt : Pos} {kt : Nat} (hc : X.calm = true) (hN : X.N.Nodup) (ha : EE X σ S e (Dt X.K (.tuple [d1, d2]))) (s : Same S H)
    (q : ∀ v w S' H', Gr S H S' H' → Dt X.K d1 v S' → Dt X.K d2 w S' → HS X D rest ((σ.set i (some v)).set j (some w)) H')
    (hi : X.N[i]? = some x := by rfl) (hj : X.N[j]? = some y := by rfl) (hx : Loc X.env.scope x := by first | exact Or.inl rfl | exact Or.inr rfl) (hy : Loc X.env.scope y := by first | exact Or.inl rfl | exact Or.inr rfl)
    (hfx : X.fn x = true ∨ X.env.scope.names.lookup x = some .local := by first | exact .inl rfl | exact .inr rfl) (hfy : X.fn y = true ∨ X.env.scope.names.lookup y = some .local := by first | exact .inl rfl | exact .inr rfl)
    (hn : (assignEach [.Name x px, .Name y py] X.env).length = 2 := by rfl) (hst : (assignEach [.Name x px, .Name y py] X.env).findIdx? (·.1) = none := by rfl)
    (h1 : (assignEach [.Name x px, .Name y py] X.env).map (·.2) = assign (.Name x px) X.env :: (assignEach [.Name y py] X.env).map (·.2) := by rfl) (h2 : (assignEach [.Name y py] X.env).map (·.2) = assign (.Name y py) X.env :: (assignEach [] X.env).map (·.2) := by rfl)
    (hss : swapsWithSole [.Tuple [.Name x px, .Name y py] kt pt] e pos.line X.env = pure false := by rfl) (hw : swappedStores [.Tuple [.Name x px, .Name y py] kt pt] e X.env = pure none := by rfl)
    (h3 : (assignEach [.Tuple [.Name x px, .Name y py] kt pt] X.env).map (·.2) = [assign (.Tuple [.Name x px, .Name y py] kt pt) X.env] := by rfl) : HS X D (.Assign [.Tuple [.Name x px, .Name y py] kt pt] e pos :: rest) σ H :=
  hs_cons (ps_asg peb pgb hss hw h3) (ha H s _ fun v S' H' g pv => by
    obtain ⟨v1, v2, p1, p2, hg⟩ := eg_pair (σ := σ) (px := px) (py := py) (pos := pt) (kk := kt) hc hN hi hj hx hy pv hfx hfy hn hst h1 h2
    exact hg H' g.sub _ (q v1 v2 S' H' g p1 p2))
theorem hs_mono {D' : Ends} {st : List Stmt} (h : HS X D st σ H) (h1 : ∀ σ H, D.nx σ H → D'.nx σ H) (h2 : ∀ v H, D.rt v H → D'.rt v H) (h3 : ∀ σ H, D.bk σ H → D'.bk σ H) (h4 : ∀ σ H, D.ct σ H → D'.ct σ H) : HS X D' st σ H := fun pins s I => thn (h pins s I) fun f s' q => by
  cases f with
  | next => obtain ⟨σ', H', I', z⟩ := q; exact ⟨σ', H', I', h1 _ _ z⟩
  | brk => obtain ⟨σ', H', I', z⟩ := q; exact ⟨σ', H', I', h3 _ _ z⟩
  | cont => obtain ⟨σ', H', I', z⟩ := q; exact ⟨σ', H', I', h4 _ _ z⟩
  | ret u => obtain ⟨v, σ', H', I', r, z⟩ := q; exact ⟨v, σ', H', I', r, h2 _ _ z⟩
/-- the ends of a statement that leads to M -/
def Dj (D : Ends) (S H : Hp) (M : L2.St → Hp → Prop) : Ends := { D with nx := fun σ' H' => ∃ S', Gr S H S' H' ∧ M σ' S' }
/-- an if whose ways meet in M -/
theorem hs_ifJ (M : L2.St → Hp → Prop) (h : ET X σ S c k) (s : Same S H) (qt : k = true → ∀ S' H', Gr S H S' H' → HS X (Dj D S' H' M) body σ H') (qf : k = false → ∀ S' H', Gr S H S' H' → HS X (Dj D S' H' M) orelse σ H')
    (h2 : ∀ σ' S' H', Gr S H S' H' → M σ' S' → HS X D rest σ' H') : HS X D (.If c body orelse pos :: rest) σ H :=
  hs_cons (ps_if ptb psb psb) (h H s _ fun S' H' g => by
    have key : ∀ st, HS X (Dj D S' H' M) st σ H' → HS X (Dn X D rest) st σ H' := fun st z => hs_mono z (fun σ' H2 ⟨S2, g2, m⟩ => h2 σ' S2 H2 (g.trans g2) m) (fun _ _ z => z) (fun _ _ z => z) (fun _ _ z => z)
    cases k with
    | true => exact iteT (key _ (qt rfl S' H' g))
    | false => exact iteF (key _ (qf rfl S' H' g)))
/-- the ends of a turn: Iv again behind it -/
def Dl (X : Cx) (D : Ends) (rest : List Stmt) (S H : Hp) (Iv : L2.St → Hp → Prop) : Ends :=
  { D with nx := fun σ' H' => ∃ S', Gr S H S' H' ∧ Iv σ' S', ct := fun σ' H' => ∃ S', Gr S H S' H' ∧ Iv σ' S', bk := fun σ' H' => HS X D rest σ' H' }
/-- for, nothing that stands is changed -/
theorem hs_for {tg iter : Expr} {Ps : List (V → Hp → Prop)} (Iv : Nat → L2.St → Hp → Prop) (hp : PassesOwn (model X.prog X.w) X.A X.env X.xe) (hc : X.calm = true) (hi : EI X σ S tg iter Ps) (s : Same S H) (h0 : ∀ S' H', Gr S H S' H' → Iv 0 σ S')
    (step : ∀ i P σ1 S1 H1 x S2 H2, Ps[i]? = some P → Gr S H S1 H1 → Iv i σ1 S1 → Gr S1 H1 S2 H2 → P x S2 → HG X tg x σ1 H2 fun σ3 H3 => HS X (Dl X D rest S2 H2 (Iv (i + 1))) body σ3 H3)
    (done : ∀ σ1 S1 H1, Gr S H S1 H1 → Iv Ps.length σ1 S1 → HS X D rest σ1 H1)
    (hs : ∀ x, foldedSetIterable iter X.env x = pure x := by intro _; rfl) : HS X D (.For tg iter body [] pos :: rest) σ H :=
  hs_cons (ps_for hp hc pib pgb psb hs) (hi H s _ fun J S1 H1 g1 it => for_it (g := bG X tg) (tb := bS X body) it (fun i σ' H' => ∃ S', Gr S1 H1 S' H' ∧ Iv i σ' S') ⟨S1, Gr.refl g1.sub, h0 S1 H1 g1⟩ (fun i σ' H' _ ⟨S', g, _⟩ => g.st.trans g.sub)
    (fun i x σ' H2 H3 hlt ⟨S2, g2, iv⟩ y => by
      obtain ⟨S3, g3, P, hP, px⟩ := y S2 g2.st g2.sub
      intro pins sh u I r
      refine thn ((step i P σ' S2 H2 x S3 H3 hP (g1.trans g2) iv g3 px) pins sh u I r) fun _ s' ⟨σ4, H4, I4, q4⟩ => ⟨σ4, H4, I4, ?_⟩
      exact hs_mono q4 (fun σ5 H5 ⟨S5, g5, iv5⟩ => ⟨S5, g2.trans (g3.trans g5), iv5⟩) (fun _ _ z => z) (fun _ _ z => z) (fun σ5 H5 ⟨S5, g5, iv5⟩ => ⟨S5, g2.trans (g3.trans g5), iv5⟩)) (fun σ' H' ⟨S', g, iv⟩ => done σ' S' H' (g1.trans g) iv))
/-- while, nothing that stands is changed; m falls -/
theorem hs_while (Iv : Nat → L2.St → Hp → Prop) (m0 : Nat) (hp : PassesOwn (model X.prog X.w) X.A X.env X.xe) (s : Same S H) (h0 : Iv m0 σ S)
    (step : ∀ m σ1 S1 H1, Gr S H S1 H1 → Iv m σ1 S1 → ∃ k, ET X σ1 S1 c k ∧ (k = true → ∀ S2 H2, Gr S1 H1 S2 H2 → HS X (Dl X D rest S2 H2 (fun σ' S' => ∃ m', m' < m ∧ Iv m' σ' S')) body σ1 H2) ∧ (k = false → ∀ S2 H2, Gr S1 H1 S2 H2 → HS X D rest σ1 H2)) :
    HS X D (.While c body [] pos :: rest) σ H :=
  hs_cons (ps_while hp ptb psb) ⟨fun m σ' H' => ∃ S', Gr S H S' H' ∧ Iv m σ' S', ⟨m0, S, Gr.refl s, h0⟩, fun m σ' H' ⟨S1, g1, iv⟩ => by
    obtain ⟨k, hk, h1, h2⟩ := step m σ' S1 H' g1 iv
    refine hk H' g1.sub _ fun S2 H2 g2 => ?_
    cases k with
    | false => exact iteF (h2 rfl S2 H2 g2)
    | true =>
      refine iteT ⟨fun σ3 H3 => ∃ S3 m', Gr S2 H2 S3 H3 ∧ m' < m ∧ Iv m' σ3 S3, fun σ3 H3 ⟨S3, m', g3, hm, iv3⟩ => ⟨m', hm, S3, g1.trans (g2.trans g3), iv3⟩, ?_⟩
      exact hs_mono (h1 rfl S2 H2 g2) (fun σ5 H5 ⟨S5, g5, m', hm, iv5⟩ => ⟨S5, m', g5, hm, iv5⟩) (fun _ _ z => z) (fun _ _ z => z) (fun σ5 H5 ⟨S5, g5, m', hm, iv5⟩ => ⟨S5, m', g5, hm, iv5⟩)⟩
end
/-! ## 11. defs -/
/-- a def that is known: where it stands, what it promises (no exception leaves it) -/
structure KD (P : Program) (w : World) (K : PySem.W.Frag) (mg : Str → Option Value) (base : Heap) (x : Str) (k : Nat) (sp : Sp) : Prop where
  ex : ∃ f fd ps, FnOk P w K mg base CX0 k f fd ps sp ∧ mg x = some (.ref f) ∧ PySem.W.keepIn K (.ref f) = true ∧ Binds K fd ps []
theorem KD.mono {P : Program} {w : World} {K : PySem.W.Frag} {mg : Str → Option Value} {base : Heap} {x : Str} {j k : Nat} {sp : Sp} (h : KD P w K mg base x j sp) (hk : j ≤ k) : KD P w K mg base x k sp := by
  obtain ⟨f, fd, ps, F, r⟩ := h.ex
  exact ⟨f, fd, ps, F.mono hk, r⟩
section
variable {X : Cx} {σ : L2.St} {S S' : Hp} {e a b c : Expr} {es : List Expr} {P R : V → Hp → Prop} {Ps : List (V → Hp → Prop)} {pos p : Pos} {k : Nat} {x : Str} {sp : Sp} {d : PyData} {ds : List PyData}
def SpE (sp : Sp) (S : Hp) (Ps : List (V → Hp → Prop)) (R : V → Hp → Prop) : Prop := ∀ vs S1 H1, Same S S1 → Same S1 H1 → Al Ps vs S1 → ∀ Q : VK, (∀ v S2 H2, Gr S1 H1 S2 H2 → R v S2 → Q v H2) → sp vs H1 Q E0
theorem ee_call (D : KD X.prog X.w X.K X.mg X.base x k sp) (hr : Room k X.A) (ha : EA X σ S (e :: es) Ps) (hsp : SpE sp S Ps R) (hg : Gl X x := by rfl) (hdb : (x == ("__debug__" : Str)) = false := by decide)
    (he : starEach (e :: es) X.env = (false, eval e X.env) :: starEach es X.env := by rfl) (hpl : (backTo pos (starEach es X.env)).any (·.1) = false := by rfl) : EE X σ S (.Call (.Name x p) (e :: es) [] pos) R := fun H s Q q => by
  obtain ⟨f, fd, ps, F, hm, hk, hb⟩ := D.ex
  refine he_of (pe_call F hr hg hm hk hb .nil pass0 pab hdb he hpl) (ha.2 H s _ fun vs S1 H1 g1 al => ?_)
  rw [List.append_nil]
  exact hsp vs S1 H1 g1.st g1.sub al Q fun v S2 H2 g2 rv => q v S2 H2 (g1.trans g2) rv
/-- a def of data: F tells what it gives -/
def spD (K : PySem.W.Frag) (F : List PyData → PyData → Prop) : Sp := fun vs H Q _ => ∃ S ds d, Same S H ∧ Dts K ds vs S ∧ F ds d ∧ ∀ v S' H', Gr S H S' H' → Dt K d v S' → Q v H'
theorem spD_E {F : List PyData → PyData → Prop} (hF : F ds d) : SpE (spD X.K F) S (Ds X.K ds) (Dt X.K d) := fun vs S1 H1 _ s al Q q => ⟨S1, ds, d, s, al_dts al, hF, q⟩
theorem ee_callD {F : List PyData → PyData → Prop} (D : KD X.prog X.w X.K X.mg X.base x k (spD X.K F)) (hr : Room k X.A) (hF : F ds d) (ha : EA X σ S (e :: es) (Ds X.K ds)) (hg : Gl X x := by rfl) (hdb : (x == ("__debug__" : Str)) = false := by decide)
    (he : starEach (e :: es) X.env = (false, eval e X.env) :: starEach es X.env := by rfl) (hpl : (backTo pos (starEach es X.env)).any (·.1) = false := by rfl) : EE X σ S (.Call (.Name x p) (e :: es) [] pos) (Dt X.K d) :=
  ee_call D hr ha (spD_E hF) hg hdb he hpl
end
section
variable {P : Program} {w : World} {K : PySem.W.Frag} {mg : Str → Option Value} {base : Heap} {x qual : Str} {params : Arguments} {body : List Stmt} {scope : Scope} {dvs : List V} {kws : List (Str × V)} {f : Addr} {fd : FuncData} {N ps : List Str} {k : Nat} {sp : Sp}
/-- a def by its body -/
theorem fn_hs (F : FunD K x qual params body scope dvs kws f fd) (Sc : FnScope N ps scope) (len : ∀ vs H Q E, sp vs H Q E → vs.length = ps.length)
    (hb : ∀ (cdv : Value) (A : Around) (outer : List Env) (s : Shared) (H : Hp) (vs : List V) (Q : VK) (E : XK), Room k (A.deeper (envOfC qual scope s.heap.objs.size f cdv)) → sp vs H Q E →
      HS (cxOf CX0 P w K mg base N qual scope f cdv A outer s H E).nox { nx := fun _ H' => Q .non H', rt := Q } body (start N vs) H) : FnOk P w K mg base CX0 (k + 1) f fd ps sp :=
  F.ok Sc len fun cdv A outer s H vs Q E hr h => ⟨_, PSs.nox psb, hb cdv A outer s H vs Q E hr h⟩
theorem kd_mk (F : FunD K x qual params body scope [] kws f fd) (G : FnOk P w K mg base CX0 k f fd ps sp) (hm : mg x = some (.ref f)) (hb : Binds K fd ps []) : KD P w K mg base x k sp := ⟨f, fd, ps, G, hm, F.kp, hb⟩
end
end Z
namespace Z
open PySem PySem.Spec PyProof.Rows L2
theorem Dts.one {K : PySem.W.Frag} {d : PyData} {vs : List V} {S : Hp} (h : Dts K [d] vs S) : ∃ v, vs = [v] ∧ Dt K d v S := (dts_al h).one
theorem Dts.two {K : PySem.W.Frag} {d e : PyData} {vs : List V} {S : Hp} (h : Dts K [d, e] vs S) : ∃ v w, vs = [v, w] ∧ Dt K d v S ∧ Dt K e w S := (dts_al h).two
theorem Dts.three {K : PySem.W.Frag} {d e g : PyData} {vs : List V} {S : Hp} (h : Dts K [d, e, g] vs S) : ∃ v w u, vs = [v, w, u] ∧ Dt K d v S ∧ Dt K e w S ∧ Dt K g u S := (dts_al h).three
end Z

namespace Z
open PySem PySem.Spec PyProof.Rows L2
/-! ## 12. comprehensions in short -/
def tupP (q : PyData × PyData) : PyData := .tuple [q.1, q.2]
theorem zipD_eq (xs ys : List PyData) : zipD xs ys = (xs.zip ys).map tupP := by
  unfold zipD
  rw [List.zip_eq_zipWith, List.map_zipWith]
  rfl
section
variable {X : Cx} {σ : L2.St} {S : Hp} {elt iter : Expr} {ifs : List Expr} {scope : Scope} {pos px py tp : Pos} {ds : List PyData} {ps : List (PyData × PyData)} {α : Type} {enc : α → PyData} {i j kk : Nat} {x y : Str}
theorem wipe1 {σ : L2.St} {i : Nat} {v : Option V} : wipe ((wipe σ [i]).set i v) [i] = wipe σ [i] := by
  show (((σ.set i none).set i v).set i none) = σ.set i none
  rw [List.set_set, List.set_set]
theorem filter_true {α : Type} (l : List α) : l.filter (fun _ => true) = l := by
  induction l with
  | nil => rfl
  | cons a l ih => rw [List.filter_cons]; simp
/-- [elt for x in iter if t] -/
theorem ee_lcf {p : PyData → Bool} {f : PyData → α} (hc : X.calm = true) (hN : X.N.Nodup) (ok : BlkOk X.N X.env.scope scope [(x, i)]) (hi : EI X σ S (.Name x px) iter (Ds X.K ds)) (hz : ds.length ≤ sizeLine)
    (hel : ∀ d ∈ ds, ∀ v S', Same S S' → Dt X.K d v S' → ∀ (s : Shared) (H0 : Hp) (C : Addr) (cl : List (Str × Addr)) (fp : List Addr),
      ETs (X.blk s H0 scope (compEnvC scope cl C X.env) fp) ((wipe σ [i]).set i (some v)) S' ifs (p d) ∧ (p d = true → EE (X.blk s H0 scope (compEnvC scope cl C X.env) fp) ((wipe σ [i]).set i (some v)) S' elt (Dt X.K (enc (f d)))))
    (hix : X.N[i]? = some x := by rfl) (hx : ∀ (s : Shared) (H0 : Hp) (C : Addr) (cl : List (Str × Addr)) (fp : List Addr), Loc (X.blk s H0 scope (compEnvC scope cl C X.env) fp).env.scope x ∧ ((X.blk s H0 scope (compEnvC scope cl C X.env) fp).fn x = true ∨ (X.blk s H0 scope (compEnvC scope cl C X.env) fp).env.scope.names.lookup x = some .local) := by
      intros; exact ⟨by first | exact Or.inl rfl | exact Or.inr rfl, by first | exact .inl rfl | exact .inr rfl⟩)
    (hs : ∀ x, foldedSetIterable iter X.env x = pure x := by intro _; rfl) :
    EE X σ S (.ListComp elt [⟨.Name x px, iter, ifs, 0⟩] scope pos) (Dt X.K (.list (((ds.filter p).map f).map enc))) := by
  refine (ee_lcG (own := [(x, i)]) (p := p) (G := fun d r => r = enc (f d)) hc hN ok hi hz (fun d hd v S' s hv => ⟨(wipe σ [i]).set i (some v), wipe1, fun sh H0 C cl fp => ?_⟩) hs).imp fun v S' h => ?_
  · obtain ⟨h1, h2⟩ := hel d hd v S' s hv sh H0 C cl fp
    obtain ⟨k1, k2⟩ := hx sh H0 C cl fp
    exact ⟨eg_name hN hix k1 k2, h1, fun hp => (h2 hp).imp fun w S2 hw => ⟨_, rfl, hw⟩⟩
  · have e : (ds.filter p).map (fun d => enc (f d)) = ((ds.filter p).map f).map enc := by rw [List.map_map]; rfl
    rw [← e]
    exact fun_of_G h
/-- [elt for x in iter] -/
theorem ee_lc {f : PyData → α} (hc : X.calm = true) (hN : X.N.Nodup) (ok : BlkOk X.N X.env.scope scope [(x, i)]) (hi : EI X σ S (.Name x px) iter (Ds X.K ds)) (hz : ds.length ≤ sizeLine)
    (hel : ∀ d ∈ ds, ∀ v S', Same S S' → Dt X.K d v S' → ∀ (s : Shared) (H0 : Hp) (C : Addr) (cl : List (Str × Addr)) (fp : List Addr), EE (X.blk s H0 scope (compEnvC scope cl C X.env) fp) ((wipe σ [i]).set i (some v)) S' elt (Dt X.K (enc (f d))))
    (hix : X.N[i]? = some x := by rfl) (hx : ∀ (s : Shared) (H0 : Hp) (C : Addr) (cl : List (Str × Addr)) (fp : List Addr), Loc (X.blk s H0 scope (compEnvC scope cl C X.env) fp).env.scope x ∧ ((X.blk s H0 scope (compEnvC scope cl C X.env) fp).fn x = true ∨ (X.blk s H0 scope (compEnvC scope cl C X.env) fp).env.scope.names.lookup x = some .local) := by
      intros; exact ⟨by first | exact Or.inl rfl | exact Or.inr rfl, by first | exact .inl rfl | exact .inr rfl⟩)
    (hs : ∀ x, foldedSetIterable iter X.env x = pure x := by intro _; rfl) :
    EE X σ S (.ListComp elt [⟨.Name x px, iter, [], 0⟩] scope pos) (Dt X.K (.list ((ds.map f).map enc))) :=
  (ee_lcf (p := fun _ => true) hc hN ok hi hz (fun d hd v S' s hv sh H0 C cl fp => ⟨ets_nil, fun _ => hel d hd v S' s hv sh H0 C cl fp⟩) hix hx hs).is (by rw [filter_true])
/-- [elt for x in iter], elements that are not fixed -/
theorem ee_lcN {F : PyData → PyData → Prop} (hc : X.calm = true) (hN : X.N.Nodup) (ok : BlkOk X.N X.env.scope scope [(x, i)]) (hi : EI X σ S (.Name x px) iter (Ds X.K ds)) (hz : ds.length ≤ sizeLine)
    (hel : ∀ d ∈ ds, ∀ v S', Same S S' → Dt X.K d v S' → ∀ (s : Shared) (H0 : Hp) (C : Addr) (cl : List (Str × Addr)) (fp : List Addr), EE (X.blk s H0 scope (compEnvC scope cl C X.env) fp) ((wipe σ [i]).set i (some v)) S' elt (Ex X.K (F d)))
    (hix : X.N[i]? = some x := by rfl) (hx : ∀ (s : Shared) (H0 : Hp) (C : Addr) (cl : List (Str × Addr)) (fp : List Addr), Loc (X.blk s H0 scope (compEnvC scope cl C X.env) fp).env.scope x ∧ ((X.blk s H0 scope (compEnvC scope cl C X.env) fp).fn x = true ∨ (X.blk s H0 scope (compEnvC scope cl C X.env) fp).env.scope.names.lookup x = some .local) := by
      intros; exact ⟨by first | exact Or.inl rfl | exact Or.inr rfl, by first | exact .inl rfl | exact .inr rfl⟩)
    (hs : ∀ x, foldedSetIterable iter X.env x = pure x := by intro _; rfl) :
    EE X σ S (.ListComp elt [⟨.Name x px, iter, [], 0⟩] scope pos) (Ex X.K fun d => ∃ rs, d = .list rs ∧ Paired F ds rs) := by
  refine (ee_lcG (own := [(x, i)]) (p := fun _ => true) (G := F) hc hN ok hi hz (fun d hd v S' s hv => ⟨(wipe σ [i]).set i (some v), wipe1, fun sh H0 C cl fp => ?_⟩) hs).imp fun v S' h => ?_
  · obtain ⟨k1, k2⟩ := hx sh H0 C cl fp
    exact ⟨eg_name hN hix k1 k2, ets_nil, fun _ => hel d hd v S' s hv sh H0 C cl fp⟩
  · obtain ⟨rs, h1, h2⟩ := h
    rw [filter_true] at h1
    exact ⟨_, ⟨rs, rfl, h1⟩, h2⟩
theorem wipe2 {σ : L2.St} {i j : Nat} {v w : Option V} (hij : i ≠ j) : wipe (((wipe σ [i, j]).set i v).set j w) [i, j] = wipe σ [i, j] := by
  show ((((((σ.set j none).set i none).set i v).set j w).set j none).set i none) = ((σ.set j none).set i none)
  rw [List.set_set, List.set_set, List.set_comm _ _ hij, List.set_set, List.set_set]
/-- [elt for x, y in iter if t] -/
theorem ee_lc2f {p : PyData × PyData → Bool} {f : PyData × PyData → α} (hc : X.calm = true) (hN : X.N.Nodup) (ok : BlkOk X.N X.env.scope scope [(x, i), (y, j)]) (hi : EI X σ S (.Tuple [.Name x px, .Name y py] kk tp) iter (Ds X.K (ps.map tupP))) (hz : ps.length ≤ sizeLine)
    (hel : ∀ q ∈ ps, ∀ v w S', Same S S' → Dt X.K q.1 v S' → Dt X.K q.2 w S' → ∀ (s : Shared) (H0 : Hp) (C : Addr) (cl : List (Str × Addr)) (fp : List Addr),
      ETs (X.blk s H0 scope (compEnvC scope cl C X.env) fp) (((wipe σ [i, j]).set i (some v)).set j (some w)) S' ifs (p q) ∧ (p q = true → EE (X.blk s H0 scope (compEnvC scope cl C X.env) fp) (((wipe σ [i, j]).set i (some v)).set j (some w)) S' elt (Dt X.K (enc (f q)))))
    (hij : i ≠ j := by decide) (hix : X.N[i]? = some x := by rfl) (hjy : X.N[j]? = some y := by rfl) (hx : ∀ (s : Shared) (H0 : Hp) (C : Addr) (cl : List (Str × Addr)) (fp : List Addr), (Loc (X.blk s H0 scope (compEnvC scope cl C X.env) fp).env.scope x ∧ ((X.blk s H0 scope (compEnvC scope cl C X.env) fp).fn x = true ∨ (X.blk s H0 scope (compEnvC scope cl C X.env) fp).env.scope.names.lookup x = some .local)) ∧
      (Loc (X.blk s H0 scope (compEnvC scope cl C X.env) fp).env.scope y ∧ ((X.blk s H0 scope (compEnvC scope cl C X.env) fp).fn y = true ∨ (X.blk s H0 scope (compEnvC scope cl C X.env) fp).env.scope.names.lookup y = some .local)) := by
      intros; exact ⟨⟨by first | exact Or.inl rfl | exact Or.inr rfl, by first | exact .inl rfl | exact .inr rfl⟩, ⟨by first | exact Or.inl rfl | exact Or.inr rfl, by first | exact .inl rfl | exact .inr rfl⟩⟩)
    (ha : ∀ (s : Shared) (H0 : Hp) (C : Addr) (cl : List (Str × Addr)) (fp : List Addr), (assignEach [.Name x px, .Name y py] (X.blk s H0 scope (compEnvC scope cl C X.env) fp).env).length = 2 ∧ (assignEach [.Name x px, .Name y py] (X.blk s H0 scope (compEnvC scope cl C X.env) fp).env).findIdx? (·.1) = none ∧
      (assignEach [.Name x px, .Name y py] (X.blk s H0 scope (compEnvC scope cl C X.env) fp).env).map (·.2) = assign (.Name x px) (X.blk s H0 scope (compEnvC scope cl C X.env) fp).env :: (assignEach [.Name y py] (X.blk s H0 scope (compEnvC scope cl C X.env) fp).env).map (·.2) ∧ (assignEach [.Name y py] (X.blk s H0 scope (compEnvC scope cl C X.env) fp).env).map (·.2) = assign (.Name y py) (X.blk s H0 scope (compEnvC scope cl C X.env) fp).env :: (assignEach [] (X.blk s H0 scope (compEnvC scope cl C X.env) fp).env).map (·.2) := by intros; exact ⟨rfl, rfl, rfl, rfl⟩)
    (hs : ∀ x, foldedSetIterable iter X.env x = pure x := by intro _; rfl) :
    EE X σ S (.ListComp elt [⟨.Tuple [.Name x px, .Name y py] kk tp, iter, ifs, 0⟩] scope pos) (Dt X.K (.list (((ps.filter p).map f).map enc))) := by
  have e0 : ∀ q ∈ ps.map tupP, ∃ r ∈ ps, q = tupP r := fun q hq => by
    obtain ⟨r, h1, h2⟩ := List.mem_map.mp hq
    exact ⟨r, h1, h2.symm⟩
  let un : PyData → PyData × PyData := fun d => match d with
    | .tuple [a, b] => (a, b)
    | _ => (.none, .none)
  have un_t : ∀ q, un (tupP q) = q := fun q => rfl
  refine (ee_lcG (own := [(x, i), (y, j)]) (p := fun d => p (un d)) (G := fun d r => r = enc (f (un d))) hc hN ok hi (by rw [List.length_map]; exact hz) (fun d hd v S' s hv => ?_) hs).imp fun v S' h => ?_
  · obtain ⟨q, hq, rfl⟩ := e0 d hd
    obtain ⟨l, xs, rfl, hl, hx', _⟩ := hv.tup_inv
    obtain ⟨v1, e1, p1⟩ := hx'.get (i := 0) (d := q.1) rfl
    obtain ⟨v2, e2, p2⟩ := hx'.get (i := 1) (d := q.2) rfl
    have hxs : xs = [v1, v2] := by
      have hl2 := hx'.1
      match xs, hl2 with
      | [u, w], _ => simp at e1 e2; rw [e1, e2]
    subst hxs
    refine ⟨((wipe σ [i, j]).set i (some v1)).set j (some v2), wipe2 hij, fun sh H0 C cl fp => ?_⟩
    obtain ⟨h1, h2⟩ := hel q hq v1 v2 S' s p1 p2 sh H0 C cl fp
    obtain ⟨⟨k1, k2⟩, ⟨k3, k4⟩⟩ := hx sh H0 C cl fp
    obtain ⟨a1, a2, a3, a4⟩ := ha sh H0 C cl fp
    refine ⟨fun H s2 Q qq => ?_, h1, fun hp => (h2 hp).imp fun w S2 hw => ⟨_, rfl, hw⟩⟩
    exact hg_of (pg_tup hc (pgs_cons (pg_name hN hix k1 k2) (pgs_cons (pg_name hN hjy k3 k4) pgs_nil a4) a3) a1 a2) ⟨l, _, rfl, sqt_up s2 hl, rfl, _, _, rfl, _, _, rfl, rfl, qq⟩
  · have h3 := fun_of_G (f := fun d => enc (f (un d))) (p := fun d => p (un d)) h
    have e : ((ps.map tupP).filter fun d => p (un d)).map (fun d => enc (f (un d))) = ((ps.filter p).map f).map enc := by
      rw [List.filter_map, List.map_map, List.map_map]
      rfl
    rw [← e]
    exact h3
/-- [elt for x, y in iter] -/
theorem ee_lc2 {f : PyData × PyData → α} (hc : X.calm = true) (hN : X.N.Nodup) (ok : BlkOk X.N X.env.scope scope [(x, i), (y, j)]) (hi : EI X σ S (.Tuple [.Name x px, .Name y py] kk tp) iter (Ds X.K (ps.map tupP))) (hz : ps.length ≤ sizeLine)
    (hel : ∀ q ∈ ps, ∀ v w S', Same S S' → Dt X.K q.1 v S' → Dt X.K q.2 w S' → ∀ (s : Shared) (H0 : Hp) (C : Addr) (cl : List (Str × Addr)) (fp : List Addr), EE (X.blk s H0 scope (compEnvC scope cl C X.env) fp) (((wipe σ [i, j]).set i (some v)).set j (some w)) S' elt (Dt X.K (enc (f q))))
    (hij : i ≠ j := by decide) (hix : X.N[i]? = some x := by rfl) (hjy : X.N[j]? = some y := by rfl) (hx : ∀ (s : Shared) (H0 : Hp) (C : Addr) (cl : List (Str × Addr)) (fp : List Addr), (Loc (X.blk s H0 scope (compEnvC scope cl C X.env) fp).env.scope x ∧ ((X.blk s H0 scope (compEnvC scope cl C X.env) fp).fn x = true ∨ (X.blk s H0 scope (compEnvC scope cl C X.env) fp).env.scope.names.lookup x = some .local)) ∧
      (Loc (X.blk s H0 scope (compEnvC scope cl C X.env) fp).env.scope y ∧ ((X.blk s H0 scope (compEnvC scope cl C X.env) fp).fn y = true ∨ (X.blk s H0 scope (compEnvC scope cl C X.env) fp).env.scope.names.lookup y = some .local)) := by
      intros; exact ⟨⟨by first | exact Or.inl rfl | exact Or.inr rfl, by first | exact .inl rfl | exact .inr rfl⟩, ⟨by first | exact Or.inl rfl | exact Or.inr rfl, by first | exact .inl rfl | exact .inr rfl⟩⟩)
    (ha : ∀ (s : Shared) (H0 : Hp) (C : Addr) (cl : List (Str × Addr)) (fp : List Addr), (assignEach [.Name x px, .Name y py] (X.blk s H0 scope (compEnvC scope cl C X.env) fp).env).length = 2 ∧ (assignEach [.Name x px, .Name y py] (X.blk s H0 scope (compEnvC scope cl C X.env) fp).env).findIdx? (·.1) = none ∧
      (assignEach [.Name x px, .Name y py] (X.blk s H0 scope (compEnvC scope cl C X.env) fp).env).map (·.2) = assign (.Name x px) (X.blk s H0 scope (compEnvC scope cl C X.env) fp).env :: (assignEach [.Name y py] (X.blk s H0 scope (compEnvC scope cl C X.env) fp).env).map (·.2) ∧ (assignEach [.Name y py] (X.blk s H0 scope (compEnvC scope cl C X.env) fp).env).map (·.2) = assign (.Name y py) (X.blk s H0 scope (compEnvC scope cl C X.env) fp).env :: (assignEach [] (X.blk s H0 scope (compEnvC scope cl C X.env) fp).env).map (·.2) := by intros; exact ⟨rfl, rfl, rfl, rfl⟩)
    (hs : ∀ x, foldedSetIterable iter X.env x = pure x := by intro _; rfl) :
    EE X σ S (.ListComp elt [⟨.Tuple [.Name x px, .Name y py] kk tp, iter, [], 0⟩] scope pos) (Dt X.K (.list ((ps.map f).map enc))) :=
  (ee_lc2f (p := fun _ => true) hc hN ok hi hz (fun q hq v w S' s hv hw sh H0 C cl fp => ⟨ets_nil, fun _ => hel q hq v w S' s hv hw sh H0 C cl fp⟩) hij hix hjy hx ha hs).is (by rw [filter_true])
end
end Z

namespace Z
open PySem PySem.Spec PyProof.Rows L2
/-! ## 13. the law's box: an object known by what holds of it alone -/
def Stab (b : Addr) (φ : Heap → Prop) : Prop := ∀ h1 h2 : Heap, φ h1 → (∀ o, h1.get? b = some o → h2.get? b = some o) → φ h2
section
variable {P : Program} {w : World} {H : Hp} {h : Heap} {b : Addr} {φ : Heap → Prop} {xs : List V}
theorem hok_swap {o o' : HO} (x : HOk P w H h) (hb : H b = some o) (no : ∀ a, o ≠ .own a) (nt : ∀ xs, o ≠ .tup xs) (new : ObjOk P w (upd H b o') h b o') : HOk P w (upd H b o') h := fun a u e => by
  by_cases ha : a = b
  · subst ha; rw [upd_same] at e; cases e; exact new
  · rw [upd_ne ha] at e
    refine (x a u e).stay (fun _ _ _ q => q) (fun c q => ?_) fun c ys q => ?_
    · rw [upd_ne (fun z => by subst z; rw [hb] at q; exact no a (Option.some.inj q))]; exact q
    · rw [upd_ne (fun z => by subst z; rw [hb] at q; exact nt ys (Option.some.inj q))]; exact q
end
theorem un_swap {fs ex : List Addr} {H H1 H2 H3 : Hp} {h h' : Heap} (u : Un fs ex H1 H2 h h') (k1 : ∀ a, H a = none → H1 a = none) (k2 : ∀ a, H a = none → H2 a = none → H3 a = none)
    (kt : ∀ a xs, H a = some (.tup xs) → H3 a = some (.tup xs)) (kf : ∀ a o x, H a = some (.frz o x) → H3 a = some (.frz o x)) (kb : ∀ a ps, H a = some (.tbl ps) → ∃ more, H3 a = some (.tbl (ps ++ more))) : Un fs ex H H3 h h' where
  keep := fun a o q n => u.keep a o q (k1 a n)
  slot := fun a o q n => u.slot a o q (k1 a n)
  free := fun a o q n x => k2 a n (u.free a o q (k1 a n) x)
  there := u.there
  tups := kt
  frzs := kf
  tbls := kb
section
variable {P : Program} {w : World} {K : PySem.W.Frag} {mg : Str → Option Value} {base : Heap} {k : Nat} {f : Addr} {fd : FuncData} {ps : List Str} {sp0 sp : Sp}
/-- a def over the list at b, for callers that know b by φ -/
theorem FnOk.box (F : FnOk P w K mg base CX0 k f fd ps sp0) (len : ∀ vs H Q E, sp vs H Q E → vs.length = ps.length)
    (hc : ∀ vs H Q E, sp vs H Q E → ∃ (b : Addr) (φ : Heap → Prop), H b = some (.ext φ) ∧ ∀ h, φ h → ∃ xs, ObjOk P w H h b (.lst xs) ∧
      sp0 vs (upd H b (.lst xs)) (fun v H' => ∃ ys, H' b = some (.lst ys) ∧ (∀ h', ObjOk P w H' h' b (.lst ys) → φ h') ∧ (∀ a o, H a = some o → a ≠ b → H' a = some o) ∧ Q v (upd H' b (.ext φ))) E0) : FnOk P w K mg base CX0 k f fd ps sp := by
  refine ⟨len, fun A outer s H args us vs Q E hr e0 hb rv hsp => ?_⟩
  obtain ⟨b, φ, hbo, hc⟩ := hc vs H Q E hsp
  obtain ⟨p, ⟨ob, hob⟩, st⟩ := e0.hok b _ hbo
  obtain ⟨xs, hx, hs0⟩ := hc s.heap p
  have ne : ∀ a, H a = none → a ≠ b := fun a n z => by rw [z, hbo] at n; cases n
  have e1 : Env0 P w K mg base A outer s (upd H b (.lst xs)) := ⟨e0.frames, e0.mod, fun a o q => ⟨(e0.bs a o q).1, by rw [upd_ne (ne a (e0.bs a o q).2)]; exact (e0.bs a o q).2⟩, e0.bsz, e0.funs, fun a ha => by rw [upd_ne (ne a (e0.frf a ha))]; exact e0.frf a ha,
    hok_swap e0.hok hbo (fun _ z => nomatch z) (fun _ z => nomatch z) hx, e0.bare⟩
  refine codeAny_mono (F.run A outer s _ args us vs _ E0 hr e1 hb rv hs0) fun r s' hq => ?_
  cases r with
  | error e => exact hq
  | ok fl =>
    cases fl with
    | ret u =>
      obtain ⟨v, H', os, bare, un, hok, r, ys, hy, hφ, hsm, q⟩ := hq
      refine ⟨v, upd H' b (.ext φ), os, bare, ?_, ?_, r, q⟩
      · refine un_swap un (fun a n => by rw [upd_ne (ne a n)]; exact n) (fun a n n2 => by rw [upd_ne (ne a n)]; exact n2) (fun a ys e => ?_) (fun a o x e => ?_) fun a ps e => ?_
        · have hne : a ≠ b := fun z => by rw [z, hbo] at e; cases e
          rw [upd_ne hne]; exact hsm a _ e hne
        · have hne : a ≠ b := fun z => by rw [z, hbo] at e; cases e
          rw [upd_ne hne]; exact hsm a _ e hne
        · have hne : a ≠ b := fun z => by rw [z, hbo] at e; cases e
          refine ⟨#[], ?_⟩
          rw [upd_ne hne, Array.append_empty]; exact hsm a _ e hne
      · have ox := hok b _ hy
        refine hok_swap hok hy (fun _ z => nomatch z) (fun _ z => nomatch z) ⟨hφ _ ox, ?_, st⟩
        obtain ⟨_, its, n, _, e⟩ := ox
        exact ⟨_, e⟩
    | next => exact hq
    | brk => exact hq
    | cont => exact hq
/-- a def that hands back a new list, for callers that know it by φ -/
theorem FnOk.close (F : FnOk P w K mg base CX0 k f fd ps sp0) (len : ∀ vs H Q E, sp vs H Q E → vs.length = ps.length)
    (hc : ∀ vs H Q E, sp vs H Q E → sp0 vs H (fun v H' => ∃ b ys φ, H b = none ∧ H' b = some (.lst ys) ∧ Same H H' ∧ (∀ h', ObjOk P w H' h' b (.lst ys) → φ h') ∧ Stab b φ ∧ Q v (upd H' b (.ext φ))) E0) : FnOk P w K mg base CX0 k f fd ps sp := by
  refine ⟨len, fun A outer s H args us vs Q E hr e0 hb rv hsp => ?_⟩
  refine codeAny_mono (F.run A outer s _ args us vs _ E0 hr e0 hb rv (hc vs H Q E hsp)) fun r s' hq => ?_
  cases r with
  | error e => exact hq
  | ok fl =>
    cases fl with
    | ret u =>
      obtain ⟨v, H', os, bare, un, hok, r, b, ys, φ, hn, hy, hs, hφ, st, q⟩ := hq
      refine ⟨v, upd H' b (.ext φ), os, bare, ?_, ?_, r, q⟩
      · refine un_swap un (fun _ n => n) (fun a n n2 => by rw [upd_ne (fun z => by rw [z, hy] at n2; cases n2)]; exact n2) (fun a ys e => ?_) (fun a o x e => ?_) fun a ps e => ?_
        · rw [upd_ne (ne_of_none e hn)]; exact hs _ _ e
        · rw [upd_ne (ne_of_none e hn)]; exact hs _ _ e
        · refine ⟨#[], ?_⟩
          rw [upd_ne (ne_of_none e hn), Array.append_empty]; exact hs _ _ e
      · have ox := hok b _ hy
        refine hok_swap hok hy (fun _ z => nomatch z) (fun _ z => nomatch z) ⟨hφ _ ox, ?_, st⟩
        obtain ⟨_, its, n, _, e⟩ := ox
        exact ⟨_, e⟩
    | next => exact hq
    | brk => exact hq
    | cont => exact hq
end
/-- what the box holds: the cells, the place, a great rest, a mixed number, a count -/
structure BoxV (c : Addr) (xs : List V) : Prop where
  ex : ∃ i g m k : Int, xs = [.ref c, .int i, .int g, .int m, .int k] ∧ 0 ≤ i ∧ 0 ≤ g ∧ 0 ≤ m ∧ m < 2147483648 ∧ 0 ≤ k
def boxPhi (b c : Addr) : Heap → Prop := fun h => ∃ (xs : List V) (its : List Value) (n : Nat), BoxV c xs ∧ Vals xs its ∧ h.get? b = some { cls := .type "list", data := .seq its.toArray n }
theorem box_stab {b c : Addr} : Stab b (boxPhi b c) := fun h1 h2 ⟨xs, its, n, hx, r, e⟩ k => ⟨xs, its, n, hx, r, k _ e⟩
theorem box_of {P : Program} {w : World} {H : Hp} {h : Heap} {b c : Addr} {xs : List V} (hx : BoxV c xs) (o : ObjOk P w H h b (.lst xs)) : boxPhi b c h := by
  obtain ⟨_, its, n, r, e⟩ := o
  exact ⟨xs, its, n, hx, r, e⟩
theorem of_box {P : Program} {w : World} {H : Hp} {h : Heap} {b c : Addr} (p : boxPhi b c h) : ∃ xs, BoxV c xs ∧ ObjOk P w H h b (.lst xs) := by
  obtain ⟨xs, its, n, hx, r, e⟩ := p
  refine ⟨xs, hx, ?_, its, n, r, e⟩
  obtain ⟨i, g, m, k, rfl, _⟩ := hx.ex
  show 5 ≤ 16777216
  decide
/-- v is a box -/
def BX : V → Hp → Prop := fun v S => ∃ (b c : Addr) (ns : List Int), v = .ref b ∧ b ≠ c ∧ S b = some (.ext (boxPhi b c)) ∧ S c = some (.lst (ns.map V.int)) ∧ ns.length ≤ 63
instance : Mn BX := ⟨fun s ⟨b, c, ns, e, n, h1, h2, l⟩ => ⟨b, c, ns, e, n, s _ _ h1, s _ _ h2, l⟩⟩
/-- a def over the box and data: any of what G tells may come back -/
def spB (K : PySem.W.Frag) (F : List PyData → (PyData → Prop) → Prop) : Sp := fun vs H Q _ => ∃ S v ws ds G, vs = v :: ws ∧ Same S H ∧ BX v S ∧ Dts K ds ws S ∧ F ds G ∧ ∀ d, G d → ∀ u S' H', Gr S H S' H' → Dt K d u S' → Q u H'
section
variable {X : Cx} {σ : L2.St} {S S' : Hp} {e a b c : Expr} {es : List Expr} {P R : V → Hp → Prop} {Ps : List (V → Hp → Prop)} {pos p : Pos} {k : Nat} {x : Str} {sp : Sp} {d : PyData} {ds : List PyData}
theorem spB_E {F : List PyData → (PyData → Prop) → Prop} {G : PyData → Prop} (hF : F ds G) : SpE (spB X.K F) S (BX :: Ds X.K ds) (Ex X.K G) := fun vs S1 H1 _ s al Q q => by
  cases al with
  | cons p r => exact ⟨S1, _, _, ds, G, rfl, s, p, al_dts r, hF, fun d hd u S' H' g pd => q u S' H' g ⟨d, hd, pd⟩⟩
theorem ee_callBx {F : List PyData → (PyData → Prop) → Prop} {G : PyData → Prop} (D : KD X.prog X.w X.K X.mg X.base x k (spB X.K F)) (hr : Room k X.A) (hF : F ds G) (ha : EA X σ S (e :: es) (BX :: Ds X.K ds)) (hg : Gl X x := by rfl) (hdb : (x == ("__debug__" : Str)) = false := by decide)
    (he : starEach (e :: es) X.env = (false, eval e X.env) :: starEach es X.env := by rfl) (hpl : (backTo pos (starEach es X.env)).any (·.1) = false := by rfl) : EE X σ S (.Call (.Name x p) (e :: es) [] pos) (Ex X.K G) :=
  ee_call D hr ha (spB_E hF) hg hdb he hpl
/-! ### what is not fixed, taken on -/
theorem ex_imp {K : PySem.W.Frag} {F G : PyData → Prop} {v : V} {S : Hp} (h : Ex K F v S) (f : ∀ d, F d → G d) : Ex K G v S := by
  obtain ⟨d, hd, p⟩ := h
  exact ⟨d, f d hd, p⟩
theorem EE.ex {F : PyData → Prop} (h : EE X σ S e (Dt X.K d)) (f : F d) : EE X σ S e (Ex X.K F) := h.imp fun v S' p => ⟨d, f, p⟩
theorem EE.exi {F G : PyData → Prop} (h : EE X σ S e (Ex X.K F)) (f : ∀ d, F d → G d) : EE X σ S e (Ex X.K G) := h.imp fun v S' p => ex_imp p f
/-- + of numbers that are not fixed -/
theorem ee_addE {F G : Int → Prop} (ha : EE X σ S a (Ex X.K fun d => ∃ i, d = .int i ∧ F i)) (hb : EE X σ S b (Ex X.K fun d => ∃ i, d = .int i ∧ G i)) : EE X σ S (.BinOp a .Add b pos) (Ex X.K fun d => ∃ i, d = .int i ∧ ∃ x y, F x ∧ G y ∧ i = x + y) :=
  ee_op op_add ha hb fun v w S1 H1 _ s ⟨d, ⟨i, e, fi⟩, pv⟩ ⟨d', ⟨j, e', gj⟩, pw⟩ Q q => by
    subst e; subst e'
    cases pv; cases pw
    exact ⟨i, j, rfl, rfl, q _ S1 H1 (Gr.refl s) ⟨_, ⟨_, rfl, i, j, fi, gj, rfl⟩, .int _⟩⟩
theorem ee_tupleE {F : List PyData → Prop} (hm : X.mg "tuple" = none) (ha : EE X σ S a (Ex X.K fun d => ∃ rs, d = .list rs ∧ F rs)) (hg : Gl X "tuple" := by rfl)
    (hs : starEach [a] X.env = (false, eval a X.env) :: starEach [] X.env := by rfl) : EE X σ S (.Call (.Name "tuple" p) [a] [] pos) (Ex X.K fun d => ∃ rs, d = .tuple rs ∧ F rs) :=
  ee_callTy call_tuple_of hm boot_tuple (ea_1 ha hs) (fun vs S1 H1 _ s al Q q => by
    obtain ⟨v, rfl, d, ⟨rs, rfl, hf⟩, pv⟩ := al.one
    obtain ⟨l, xs, rfl, hl, hx, z⟩ := pv.lst_inv
    exact ⟨l, xs, rfl, .inl ⟨sql_of (s _ _ hl), fun t ht => q _ _ _ (Gr.new s ht) ⟨_, ⟨rs, rfl, hf⟩, Dt.tup_mk (sqt_of upd_same) (hx.up (Same.new (s.free ht))) z⟩⟩⟩) hg (he := hs) (hpl := by rfl)
/-- displays of data that is not fixed -/
def Exs (K : PySem.W.Frag) (Fs : List (PyData → Prop)) : List (V → Hp → Prop) := Fs.map (Ex K)
inductive AllF : List (PyData → Prop) → List PyData → Prop
  | nil : AllF [] []
  | cons {F : PyData → Prop} {Fs : List (PyData → Prop)} {d : PyData} {ds : List PyData} : F d → AllF Fs ds → AllF (F :: Fs) (d :: ds)
theorem AllF.len {Fs : List (PyData → Prop)} {ds : List PyData} (h : AllF Fs ds) : ds.length = Fs.length := by
  induction h with
  | nil => rfl
  | cons _ _ ih => simp [ih]
theorem al_exs {K : PySem.W.Frag} : ∀ {Fs : List (PyData → Prop)} {vs : List V} {H : Hp}, Al (Exs K Fs) vs H → ∃ ds, AllF Fs ds ∧ Dts K ds vs H
  | [], _, _, h => by cases h; exact ⟨[], .nil, .nil⟩
  | F :: Fs, _, _, h => by cases h with
    | cons p r =>
      obtain ⟨ds, h1, h2⟩ := al_exs r
      obtain ⟨d, hd, pd⟩ := p
      exact ⟨d :: ds, .cons hd h1, .cons pd h2⟩
theorem ee_tupE {es : List Expr} {x1} {Fs : List (PyData → Prop)} (h : EA X σ S es (Exs X.K Fs)) (hz : Fs.length ≤ sizeLine := by show _ ≤ 16777216; exact Nat.le_of_ble_eq_true rfl) : EE X σ S (.Tuple es x1 pos) (Ex X.K fun d => ∃ ds, d = .tuple ds ∧ AllF Fs ds) :=
  ee_tupA (vsP := fun vs S' => ∃ ds, AllF Fs ds ∧ Dts X.K ds vs S') (fun H s Q q => h.2 H s Q fun vs S' H' g al => q vs S' H' g (al_exs al)) (fun vs S' ⟨ds, h1, h2⟩ => by rw [h2.1, h1.len]; exact hz)
    fun vs S' p _ hp ⟨ds, h1, h2⟩ => ⟨_, ⟨ds, rfl, h1⟩, Dt.tup_mk (sqt_of upd_same) (h2.up (Same.new hp)) (by rw [h2.1, h1.len]; exact hz)⟩
theorem ee_lstE {es : List Expr} {Fs : List (PyData → Prop)} (h : EA X σ S es (Exs X.K Fs)) (hz : Fs.length ≤ sizeLine := by show _ ≤ 16777216; exact Nat.le_of_ble_eq_true rfl) : EE X σ S (.List es pos) (Ex X.K fun d => ∃ ds, d = .list ds ∧ AllF Fs ds) :=
  ee_lstA (vsP := fun vs S' => ∃ ds, AllF Fs ds ∧ Dts X.K ds vs S') (fun H s Q q => h.2 H s Q fun vs S' H' g al => q vs S' H' g (al_exs al)) (fun vs S' ⟨ds, h1, h2⟩ => by rw [h2.1, h1.len]; exact hz)
    fun vs S' p _ hp ⟨ds, h1, h2⟩ => ⟨_, ⟨ds, rfl, h1⟩, Dt.lst_mk upd_same (h2.up (Same.new hp)) (by rw [h2.1, h1.len]; exact hz)⟩
end
end Z
namespace Z
open PySem PySem.Spec PyProof.Rows L2
/-! ### lists that change -/
section
variable {X : Cx} {σ : L2.St} {S H : Hp} {e o i : Expr} {P : V → Hp → Prop} {pos pos' : Pos} {D : Ends} {rest : List Stmt} {b : Addr} {xs : List V} {k : Int} {j : Nat} {v : V}
/-- o[i] = e -/
theorem hs_setL [Mn P] (he : EE X σ H e P) (ho : EE X σ H o (fun w _ => w = .ref b)) (hi : EE X σ H i (Dt X.K (.int k))) (hb : H b = some (.lst xs)) (hk : ixN xs.length k = some j)
    (q : ∀ v H', Same H H' → P v H' → HS X D rest σ (upd H' b (.lst (xs.set j v))))
    (ha : ∀ v, assign (.Subscript o i pos') X.env v = (do
      let ov ← holding [v] (eval o X.env)
      let iv ← holding [v, ov] (eval i X.env)
      standAt pos'
      holding [v, ov, iv] (setItem ov iv v)
      release [v, ov, iv] []) := by intro _; rfl)
    (hs : swapsWithSole [.Subscript o i pos'] e pos.line X.env = pure false := by rfl) (hw : swappedStores [.Subscript o i pos'] e X.env = pure none := by rfl)
    (h1 : (assignEach [.Subscript o i pos'] X.env).map (·.2) = [assign (.Subscript o i pos') X.env] := by rfl) : HS X D (.Assign [.Subscript o i pos'] e pos :: rest) σ H :=
  hs_cons (ps_asg peb (pg_sub peb peb set_list ha) hs hw h1) (he H (Same.refl H) _ fun v S1 H1 g1 pv => ho H1 g1.hh _ fun w S2 H2 g2 pw => hi H2 (g1.hh.trans g2.hh) _ fun u S3 H3 g3 pu => by
    subst pw
    cases pu
    have s3 := (g1.hh.trans g2.hh).trans g3.hh
    exact ⟨b, xs, k, j, rfl, rfl, s3 _ _ hb, hk, q v H3 s3 (Mn.up (g1.sub.trans (g2.hh.trans g3.hh)) pv)⟩)
/-- an item of such a list -/
theorem ee_ixB (hb : S b = some (.lst xs)) (ho : EE X σ S o (fun w _ => w = .ref b)) (hi : EE X σ S i (Dt X.K (.int k))) (hx : atI xs k = some v) (hp : ∀ S', Same S S' → P v S') (hs : PlainIx i := by exact fun _ _ => rfl) : EE X σ S (.Subscript o i pos) P := by
  haveI := mn_eq (v := .ref b)
  exact ee_2 (pe_ix ix_list peb peb hs) ho hi fun x y S1 H1 s0 s px py Q q => by
    subst px
    cases py
    exact ⟨b, xs, k, v, rfl, rfl, sql_of (s _ _ (s0 _ _ hb)), hx, q _ S1 H1 (Gr.refl s) (hp S1 s0)⟩
end
end Z
namespace Z
open PySem PySem.Spec PyProof.Rows L2
/-- an if whose ways meet in M, told of the whole heap -/
theorem hs_ifR {X : Cx} {σ : L2.St} {S H : Hp} {c : Expr} {pos : Pos} {D : Ends} {rest body orelse : List Stmt} {k : Bool} (M : L2.St → Hp → Prop) (h : ET X σ S c k) (s : Same S H) (qt : k = true → ∀ S' H', Gr S H S' H' → HS X { D with nx := M } body σ H') (qf : k = false → ∀ S' H', Gr S H S' H' → HS X { D with nx := M } orelse σ H')
    (h2 : ∀ σ' H', M σ' H' → HS X D rest σ' H') : HS X D (.If c body orelse pos :: rest) σ H :=
  hs_cons (ps_if ptb psb psb) (h H s _ fun S' H' g => by
    have key : ∀ st, HS X { D with nx := M } st σ H' → HS X (Dn X D rest) st σ H' := fun st z => hs_mono z (fun σ' H2 m => h2 σ' H2 m) (fun _ _ z => z) (fun _ _ z => z) (fun _ _ z => z)
    cases k with
    | true => exact iteT (key _ (qt rfl S' H' g))
    | false => exact iteF (key _ (qf rfl S' H' g)))
theorem ee_mulS {X : Cx} {σ : L2.St} {S : Hp} {a b : Expr} {pos : Pos} {i j : Int} (hc : CMul i j) (ha : EE X σ S a (Dt X.K (.int i))) (hb : EE X σ S b (Dt X.K (.int j))) : EE X σ S (.BinOp a .Mult b pos) (Dt X.K (.int (i * j))) := ee_op op_mul ha hb (opE_I hc fun _ => .int _)
end Z

namespace Z
open PySem PySem.Spec PyProof.Rows L2
/-! ## 14. more rules -/
/-- walked things that are not fixed: W tells which lists they may be -/
def EIW (X : Cx) (σ : L2.St) (S : Hp) (tg iter : Expr) (W : List PyData → Prop) : Prop := ∀ H, Same S H → ∀ R : It → Hp → Prop, (∀ ds J S' H', W ds → Gr S H S' H' → ItP J S' (Ds X.K ds) → R J H') → HI X tg iter σ H R
section
variable {X : Cx} {σ : L2.St} {S S' : Hp} {e a b c o elt tg iter : Expr} {es : List Expr} {P R : V → Hp → Prop} {Ps : List (V → Hp → Prop)} {pos p px : Pos} {k : Bool} {x y : Str} {d d1 d2 : PyData} {ds ds1 ds2 : List PyData} {i j : Nat} {n : Int} {scope : Scope} {own : List (Str × Nat)} {D : Ends} {rest : List Stmt}
theorem eiw_range {F : Nat → Prop} (hm : X.mg "range" = none) (hn : ∀ n, F n → (n : Int) < 2 ^ 62) (ha : EE X σ S a (Ex X.K fun d => ∃ n : Nat, d = .int n ∧ F n)) (hg : Gl X "range" := by rfl) (hs : starEach [a] X.env = [(false, eval a X.env)] := by rfl) :
    EIW X σ S tg (.Call (.Name "range" p) [a] [] pos) (fun ds => ∃ n, F n ∧ ds = upto n) := fun H s R q =>
  hi_of (pi_range1 hg hm pab hs) ((ea_1 ha (by rw [hs]; rfl)).2 H s _ fun vs S1 H1 g1 al => by
    obtain ⟨v, rfl, d, ⟨n, rfl, fn⟩, pv⟩ := al.one
    cases pv
    refine ⟨(n : Int), rfl, by omega, hn n fn, q _ _ S1 H1 ⟨n, fn, rfl⟩ g1 ⟨fun i H hi hs => ?_, fun H hs => ?_, fun i H x H' hi hs y T st th => ?_⟩⟩
    · rw [ds_len, upto_len] at hi
      show i < ((n : Int)).toNat
      omega
    · rw [ds_len, upto_len]
      show ((n : Int)).toNat ≤ n
      omega
    · rw [ds_len, upto_len] at hi
      obtain ⟨rfl, rfl⟩ : H' = H ∧ x = .int (0 + (i : Int)) := y
      rw [Int.zero_add]
      exact ⟨T, Gr.refl th, _, ds_get (upto_get hi), .int _⟩)
theorem eiw_list {F : List PyData → Prop} (ha : EE X σ S e (Ex X.K fun d => ∃ ds, d = .list ds ∧ F ds)) : EIW X σ S tg e F := fun H s R q =>
  hi_of (pi_list peb) (ha H s _ fun v S1 H1 g1 ⟨d, ⟨ds, e, fd⟩, pv⟩ => by
    subst e
    obtain ⟨l, xs, rfl, hl, hx, z⟩ := pv.lst_inv
    refine ⟨l, rfl, ⟨xs, sql_of (g1.sub _ _ hl)⟩, q ds _ S1 H1 fd g1 ⟨fun i H hi hs => ?_, fun H hs => ?_, fun i H x H' hi hs y T st th => ?_⟩⟩
    · rw [ds_len, ← hx.1] at hi
      exact (walk_list (K := X.K) (a := l) (xs := xs)).goes i H hi (sql_of (hs _ _ hl))
    · rw [ds_len, ← hx.1]
      exact (walk_list (K := X.K) (a := l) (xs := xs)).stops H (sql_of (hs _ _ hl))
    · rw [ds_len, ← hx.1] at hi
      obtain ⟨rfl, hy⟩ := (walk_list (K := X.K) (a := l) (xs := xs)).yields i H x H' hi (sql_of (hs _ _ hl)) y
      have hi2 : i < ds.length := by rw [← hx.1]; exact hi
      exact ⟨T, Gr.refl th, _, ds_get (List.getElem?_eq_getElem hi2), (hx.2 i x _ hy (List.getElem?_eq_getElem hi2)).up st⟩)
/-- [elt for x in iter], the walked and the elements not fixed -/
theorem ee_lcW {F : PyData → PyData → Prop} {W : List PyData → Prop} (hc : X.calm = true) (hN : X.N.Nodup) (ok : BlkOk X.N X.env.scope scope [(x, i)]) (hi : EIW X σ S (.Name x px) iter W) (hz : ∀ ds, W ds → ds.length ≤ sizeLine)
    (hel : ∀ ds, W ds → ∀ d ∈ ds, ∀ v S', Same S S' → Dt X.K d v S' → ∀ (s : Shared) (H0 : Hp) (C : Addr) (cl : List (Str × Addr)) (fp : List Addr), EE (X.blk s H0 scope (compEnvC scope cl C X.env) fp) ((wipe σ [i]).set i (some v)) S' elt (Ex X.K (F d)))
    (hix : X.N[i]? = some x := by rfl) (hx : ∀ (s : Shared) (H0 : Hp) (C : Addr) (cl : List (Str × Addr)) (fp : List Addr), Loc (X.blk s H0 scope (compEnvC scope cl C X.env) fp).env.scope x ∧ ((X.blk s H0 scope (compEnvC scope cl C X.env) fp).fn x = true ∨ (X.blk s H0 scope (compEnvC scope cl C X.env) fp).env.scope.names.lookup x = some .local) := by
      intros; exact ⟨by first | exact Or.inl rfl | exact Or.inr rfl, by first | exact .inl rfl | exact .inr rfl⟩)
    (hs : ∀ x, foldedSetIterable iter X.env x = pure x := by intro _; rfl) :
    EE X σ S (.ListComp elt [⟨.Name x px, iter, [], 0⟩] scope pos) (Ex X.K fun d => ∃ rs, d = .list rs ∧ ∃ ds, W ds ∧ Paired F ds rs) := fun H s Q q =>
  he_of (pe_lc (own := [(x, i)]) (wi := bI X (.Name x px) iter) (g := gBlk X scope (.Name x px)) (tt := tBlk X scope []) (te := eBlk X scope elt) hc hN pib ok
    (fun s H0 C cl fp => ⟨fun pins sh σ' H' v u Q' I r h => h s H0 C cl fp pins sh u I r⟩) (fun s H0 C cl fp => ⟨fun pins sh σ' H' Q' I h => h s H0 C cl fp pins sh I⟩) (fun s H0 C cl fp => ⟨fun pins sh σ' H' Q' I h => h s H0 C cl fp pins sh I⟩) hs)
    (hi H s _ fun ds J S1 H1 hw g1 it => lc_loopG (own := [(x, i)]) (p := fun _ => true) (G := F) (hz ds hw) (fun d hd v S' s hv => ⟨(wipe σ [i]).set i (some v), wipe1, fun sh H0 C cl fp => by
        obtain ⟨k1, k2⟩ := hx sh H0 C cl fp
        exact ⟨eg_name hN hix k1 k2, ets_nil, fun _ => hel ds hw d hd v S' s hv sh H0 C cl fp⟩⟩) Q (fun v S' H' g ⟨rs, h1, h2⟩ => by
        rw [filter_true] at h1
        exact q v S' H' g ⟨_, ⟨rs, rfl, ds, hw, h1⟩, h2⟩) g1 it)
/-- xs[i], i any place of the list -/
theorem atI_nat {xs : List PyData} {n : Int} (h0 : 0 ≤ n) (h1 : n < (xs.length : Int)) : ∃ d, d ∈ xs ∧ atI xs n = some d := by
  refine ⟨xs[n.toNat]'(by omega), List.getElem_mem _, ?_⟩
  unfold atI ixN
  rw [if_pos h0, if_pos h1]
  exact List.getElem?_eq_getElem _
theorem ee_ixE (ha : EE X σ S a (Dt X.K (.list ds))) (hb : EE X σ S b (Ex X.K fun d => ∃ n, d = .int n ∧ 0 ≤ n ∧ n < (ds.length : Int))) (hs : PlainIx b := by exact fun _ _ => rfl) : EE X σ S (.Subscript a b pos) (Ex X.K fun d => d ∈ ds) :=
  ee_2 (pe_ix ix_list peb peb hs) ha hb fun x y S1 H1 _ s px ⟨d, ⟨n, e, n0, n1⟩, py⟩ Q q => by
    subst e
    cases py
    obtain ⟨l, xs, rfl, hl, hx, z⟩ := px.lst_inv
    obtain ⟨d, hd, he⟩ := atI_nat n0 n1
    obtain ⟨x, h1, h2⟩ := atI_dts hx he
    exact ⟨l, xs, n, x, rfl, rfl, sql_of (s _ _ hl), h1, q _ S1 H1 (Gr.refl s) ⟨d, hd, h2⟩⟩
/-- n in (a, b, ..) -/
theorem inV_int (n : Int) : ∀ ns : List Int, inV (.int n) (ns.map V.int) = ns.contains n
  | [] => rfl
  | m :: ns => by
    unfold inV
    rw [List.map_cons, List.any_cons]
    have h := inV_int n ns
    unfold inV at h
    rw [h, List.contains_cons]
    show (m == n || _) = _
    rw [show (m == n) = (n == m) by
      by_cases e : m = n
      · rw [e]
      · rw [beq_false_of_ne e, beq_false_of_ne (Ne.symm e)]]
theorem flat_ints (ns : List Int) : (ns.map V.int).all flatV = true := by
  induction ns with
  | nil => rfl
  | cons n ns ih => rw [List.map_cons, List.all_cons, ih]; rfl
theorem opE_inT {K : PySem.W.Frag} {ns : List Int} : OpE (rIn K false) S (Dt K (.int n)) (Dt K (.tuple (ns.map .int))) (Dt K (.bool (ns.contains n))) := fun v w S1 H1 _ s pv pw Q q => by
  cases pv
  obtain ⟨l, xs, rfl, hl, hx, z⟩ := pw.tup_inv
  rw [dts_int hx] at hl
  refine ⟨l, ns.map V.int, rfl, .inr (sqt_up s hl), rfl, flat_ints ns, ?_⟩
  rw [if_neg Bool.false_ne_true, inV_int]
  exact q _ S1 H1 (Gr.refl s) (.bl _)
theorem et_inT {ns : List Int} (ha : EE X σ S a (Dt X.K (.int n))) (hb : EE X σ S b (Dt X.K (.tuple (ns.map .int)))) (hm : behindInMarks .In b = false := by rfl) : ET X σ S (.Compare a [.In] [b] pos) (ns.contains n) := et_cmp op_in_seq ha hb opE_inT hm
/-- e.index(True) of a list of bools -/
theorem ee_indexT {bs : List Bool} {j : Nat} {apos : Pos} (hj : bs[j]? = some true) (hno : ∀ m, m < j → bs[m]? = some false) (ha : EE X σ S a (Dt X.K (.list (bs.map .bool)))) (hb : EE X σ S b (Dt X.K (.bool true)))
    (hbase : attributeBase a "index" X.env (eval a X.env) = eval a X.env := by rfl)
    (hfew : ((backTo pos (starEach [b] X.env)).all (fun x => !x.1) && (backToKw pos (keywordEach [] X.env)).all (fun x => x.1.isSome) && decide (([b] : List Expr).length + ([] : List Keyword).length + (if ([] : List Keyword).isEmpty then 0 else 1) < 30)) = true := by rfl)
    (hline : (apos.endLine == pos.line) = true := by rfl) (hs : starEach [b] X.env = (false, eval b X.env) :: starEach [] X.env := by rfl) (hplain : (backTo pos (starEach [] X.env)).any (·.1) = false := by rfl) :
    EE X σ S (.Call (.Attribute a "index" apos) [b] [] pos) (Dt X.K (.int (j : Nat))) := fun H s Q q =>
  he_of (pe_bm PySem.F.plainAttrs_list PySem.F.slot_list_index PySem.F.type_list_index mt_index peb pab hbase hfew hline hs hplain) (ha H s _ fun v S1 H1 g1 pv => by
    obtain ⟨l, xs, rfl, hl, hx, z⟩ := pv.lst_inv
    have e := dts_bl hx
    subst e
    refine ⟨.inl ⟨rfl, _, sql_of (g1.sub _ _ hl)⟩, ((ea_1 hb hs).up g1.st).2 H1 g1.sub _ fun vs S2 H2 g2 al => ?_⟩
    obtain ⟨w, rfl, pw⟩ := al.one
    cases pw
    refine ⟨l, bs.map V.bl, .bl true, j, .bl true, rfl, rfl, sql_of (g2.hh _ _ (g1.sub _ _ hl)), rfl, ?_, ?_, rfl, fun m z' hm hz => ?_, q _ S2 H2 (g1.trans g2) (.int _)⟩
    · rw [List.all_map]; exact List.all_eq_true.mpr fun b _ => rfl
    · rw [List.getElem?_map, hj]; rfl
    · rw [List.getElem?_map, hno m hm] at hz
      cases hz
      rfl)
/-- a, b = e, e a pair that is not fixed -/
theorem hs_unpackE {H : Hp} {F G : PyData → Prop} {px py pt : Pos} {kt : Nat} (hc : X.calm = true) (hN : X.N.Nodup) (ha : EE X σ S e (Ex X.K fun d => ∃ d1 d2, d = .tuple [d1, d2] ∧ F d1 ∧ G d2)) (s : Same S H)
    (q : ∀ d1 d2 v w S' H', F d1 → G d2 → Gr S H S' H' → Dt X.K d1 v S' → Dt X.K d2 w S' → HS X D rest ((σ.set i (some v)).set j (some w)) H')
    (hi : X.N[i]? = some x := by rfl) (hj : X.N[j]? = some y := by rfl) (hx : Loc X.env.scope x := by first | exact Or.inl rfl | exact Or.inr rfl) (hy : Loc X.env.scope y := by first | exact Or.inl rfl | exact Or.inr rfl)
    (hfx : X.fn x = true ∨ X.env.scope.names.lookup x = some .local := by first | exact .inl rfl | exact .inr rfl) (hfy : X.fn y = true ∨ X.env.scope.names.lookup y = some .local := by first | exact .inl rfl | exact .inr rfl)
    (hn : (assignEach [.Name x px, .Name y py] X.env).length = 2 := by rfl) (hst : (assignEach [.Name x px, .Name y py] X.env).findIdx? (·.1) = none := by rfl)
    (h1 : (assignEach [.Name x px, .Name y py] X.env).map (·.2) = assign (.Name x px) X.env :: (assignEach [.Name y py] X.env).map (·.2) := by rfl) (h2 : (assignEach [.Name y py] X.env).map (·.2) = assign (.Name y py) X.env :: (assignEach [] X.env).map (·.2) := by rfl)
    (hss : swapsWithSole [.Tuple [.Name x px, .Name y py] kt pt] e pos.line X.env = pure false := by rfl) (hw : swappedStores [.Tuple [.Name x px, .Name y py] kt pt] e X.env = pure none := by rfl)
    (h3 : (assignEach [.Tuple [.Name x px, .Name y py] kt pt] X.env).map (·.2) = [assign (.Tuple [.Name x px, .Name y py] kt pt) X.env] := by rfl) : HS X D (.Assign [.Tuple [.Name x px, .Name y py] kt pt] e pos :: rest) σ H :=
  hs_cons (ps_asg peb pgb hss hw h3) (ha H s _ fun v S' H' g ⟨d, ⟨d1, d2, e, f1, f2⟩, pv⟩ => by
    subst e
    obtain ⟨v1, v2, p1, p2, hg⟩ := eg_pair (σ := σ) (px := px) (py := py) (pos := pt) (kk := kt) hc hN hi hj hx hy pv hfx hfy hn hst h1 h2
    exact hg H' g.sub _ (q d1 d2 v1 v2 S' H' f1 f2 g p1 p2))
theorem AllF.one {F : PyData → Prop} {ds : List PyData} (h : AllF [F] ds) : ∃ d, ds = [d] ∧ F d := by
  cases h with
  | cons f r => cases r; exact ⟨_, rfl, f⟩
theorem AllF.two {F G : PyData → Prop} {ds : List PyData} (h : AllF [F, G] ds) : ∃ d e, ds = [d, e] ∧ F d ∧ G e := by
  cases h with
  | cons f r => obtain ⟨e, rfl, g⟩ := r.one; exact ⟨_, _, rfl, f, g⟩
theorem ee_pairE {F G : PyData → Prop} {x1} (ha : EE X σ S a (Ex X.K F)) (hb : EE X σ S b (Ex X.K G)) (hs : starEach [a, b] X.env = (false, eval a X.env) :: starEach [b] X.env := by rfl) (hs2 : starEach [b] X.env = (false, eval b X.env) :: starEach [] X.env := by rfl) : EE X σ S (.Tuple [a, b] x1 pos) (Ex X.K fun d => ∃ d1 d2, d = .tuple [d1, d2] ∧ F d1 ∧ G d2) :=
  (ee_tupE (Fs := [F, G]) (ea_2 ha hb hs hs2)).exi fun d ⟨ds, e, h⟩ => by
    obtain ⟨d1, d2, rfl, f, g⟩ := h.two
    exact ⟨d1, d2, e, f, g⟩
/-- sep.join(list of texts) -/
theorem ee_join {z : Str} {ys : List Str} {apos : Pos} (hz : (ys.map (·.length)).sum + ys.length * z.length ≤ 16777216) (ha : EE X σ S a (Dt X.K (.str z))) (hb : EE X σ S b (Dt X.K (.list (ys.map .str))))
    (hbase : attributeBase a "join" X.env (eval a X.env) = eval a X.env := by rfl)
    (hfew : ((backTo pos (starEach [b] X.env)).all (fun x => !x.1) && (backToKw pos (keywordEach [] X.env)).all (fun x => x.1.isSome) && decide (([b] : List Expr).length + ([] : List Keyword).length + (if ([] : List Keyword).isEmpty then 0 else 1) < 30)) = true := by rfl)
    (hline : (apos.endLine == pos.line) = true := by rfl) (hs : starEach [b] X.env = (false, eval b X.env) :: starEach [] X.env := by rfl) (hplain : (backTo pos (starEach [] X.env)).any (·.1) = false := by rfl) :
    EE X σ S (.Call (.Attribute a "join" apos) [b] [] pos) (Dt X.K (.str (Txt.join z ys))) := fun H s Q q =>
  he_of (pe_bm PySem.F.plainAttrs_str PySem.F.slot_str_join PySem.F.type_str_join mt_join peb pab hbase hfew hline hs hplain) (ha H s _ fun v S1 H1 g1 pv => by
    cases pv
    refine ⟨rfl, ((ea_1 hb hs).up g1.st).2 H1 g1.sub _ fun vs S2 H2 g2 al => ?_⟩
    obtain ⟨w, rfl, pw⟩ := al.one
    obtain ⟨l, xs, rfl, hl, hx, _⟩ := pw.lst_inv
    rw [dts_str hx] at hl
    exact ⟨z, l, ys, rfl, rfl, .inl (sql_of (g2.sub _ _ hl)), hz, q _ S2 H2 (g1.trans g2) (.str _)⟩)
end
end Z

namespace Z
open PySem PySem.Spec PyProof.Rows L2 PySem.Froz
/-! ## 15. set(text), a text of different ascii signs -/
section
variable {prog : Program} {w : World} {A : Around} {E : Value → Shared → Prop} {s : Shared}
theorem fresh_fits (led : Bool) : (SetTable.fresh 0 0 led).fits 0 = true := by cases led <;> decide +kernel
theorem run_ok {P : Program} : ∀ (cs : List Nat) (tk : Tok) (D : SD) (l : List Str), TxOk P w D l → ∃ l', TxOk P w (runD w cs tk D) l' ∧ l'.length = cs.length + l.length
  | [], _, D, l, F => ⟨l, F, by simp⟩
  | c :: r, tk, D, l, F => by
    obtain ⟨l', h1, h2⟩ := run_ok r (tk + 2) _ (sing c :: l) (add_ok tk F)
    exact ⟨l', h1, by rw [h2]; simp; omega⟩
theorem finU_get {s : Shared} {a it : Addr} {T : String} {X : SD} {n m : Nat} {o : Obj} (hne : a ≠ it) (h : s.heap.get? a = some o) : (finU s a T it X n m).heap.get? a = some (sObj T X) :=
  Heap.get?_push_of_some _ (Heap.get?_push_of_some _ (PySem.Heap.get?_update_of_ne _ (Ne.symm hne) (get_upd _ h rfl)))
theorem finU_old {s : Shared} {a it b : Addr} {T : String} {X : SD} {n m : Nat} {o : Obj} (h1 : b ≠ a) (h2 : b ≠ it) (h : s.heap.get? b = some o) : (finU s a T it X n m).heap.get? b = some o :=
  Heap.get?_push_of_some _ (Heap.get?_push_of_some _ (PySem.Heap.get?_update_of_ne _ (Ne.symm h2) (PySem.Heap.get?_update_of_ne _ (Ne.symm h1) h)))
theorem call_set_text {x : Str} {u : Tok} {Q : Value → Shared → Prop} (hh : A.handled = none) (ha : x.cps.all (· < 128) = true) (hnd : x.cps.toList.Nodup) (hlen : x.cps.size ≤ 1000)
    (h : ∀ (h' : Heap) (tk : Nat) (o : Obj) (es : Array (Int × Value)) (ep : Nat) (t : SetTable), h'.get? s.heap.objs.size = some o → o = sObj "set" (es, ep, t) → t.fits es.size = true → es.size = x.cps.size →
      (∀ b o, b < s.heap.objs.size → s.heap.get? b = some o → h'.get? b = some o) → Q (.ref s.heap.objs.size) { s with heap := h', toks := tk }) :
    wpAny (model prog w) A (call (.type "set") [.str x u]) Q E s := by
  obtain ⟨c, tl, hmro⟩ := PySem.F.called_set.mro
  have hmade := PySem.F.called_set.made
  have hsub := PySem.F.called_set.sub
  refine wpAny_call (codeAny_of_tree ?_)
  show wpAny _ _ (callAny (.type "set") _) _ _ _
  refine wpAny_pure ⟨Code.quiet_builtin _ (by decide +kernel), codeAny_builtin PySem.F.entry_type_call ?_⟩
  rw [Around.under_plain (weight_type_call_type "set" [.str x u] []) rfl]
  have h1 := PySem.F.called_set.notType
  have h2 := PySem.F.called_set.canCreate
  have hct := PySem.F.typeCall_set_1 (.str x u)
  repeat (any_goals (first | assumption | wp_step))
  refine codeAny_mono (code_set_new_1 (.str x u) (E := E) (Q₁ := fun obj s₁ => ∃ led : Bool, obj = .ref s.heap.objs.size ∧ s₁ = { s with heap := s.heap.push { cls := .type "set", dict := none, data := .set #[] 0 (.fresh 0 0 led) } }) fun led => ⟨led, rfl, rfl⟩) fun r s₁ hr => ?_
  cases r with
  | error e => exact hr
  | ok fl =>
    cases fl with
    | ret obj =>
      obtain ⟨led, rfl, rfl⟩ := hr
      have hS : (s.heap.push { cls := .type "set", dict := none, data := .set #[] 0 (.fresh 0 0 led) }).get? s.heap.objs.size = some { cls := .type "set", dict := none, data := .set #[] 0 (.fresh 0 0 led) } := Heap.get?_push_size _ rfl
      have hT : Shared.TypeIs { s with heap := s.heap.push { cls := .type "set", dict := none, data := .set #[] 0 (.fresh 0 0 led) } } (.ref s.heap.objs.size) "set" := ⟨_, hS, rfl⟩
      have hli := PySem.F.called_set.init.lookup
      have hbi := PySem.F.called_set.init.bind (.ref s.heap.objs.size)
      repeat (any_goals (first | assumption | wp_step))
      refine codeAny_mono (codeAny_call_builtin (R := wants (fun r s₂ => r = .none ∧ ∃ h' tk es ep t, s₂ = { s with heap := h', toks := tk } ∧
          h'.get? s.heap.objs.size = some (sObj "set" (es, ep, t)) ∧ t.fits es.size = true ∧ es.size = x.cps.size ∧
          (∀ b o, b < s.heap.objs.size → s.heap.get? b = some o → h'.get? b = some o)) E) PySem.F.called_set.init.plain PySem.F.entry_set_init (check_set_init_1 hT ?_)) fun r₂ s₂ hr₂ => ?_
      · have hsls := PySem.F.sub_str_set
        have hslf := PySem.F.sub_str_frozenset
        have hne : (Value.type "str" == Value.type "dict") = false := by decide
        unfold Builtin.«set.__init__» noKeywords Builtin.Frozenset.updateFrom
        generalize hPI : pyIter = PI
        wp_walk
        subst hPI
        refine wpAny_pyIter_ascii ha ?_
        refine wpAny_bind (wpAny_runValue ?_)
        have e1 : (s.heap.push { cls := .type "set", dict := none, data := .set #[] 0 (.fresh 0 0 led) }).objs.size = s.heap.objs.size + 1 := Heap.size_push _ _
        have hSz : (s.heap.push { cls := .type "set", dict := none, data := .set #[] 0 (.fresh 0 0 led) }).get? s.heap.objs.size = some (sObj "set" (#[], 0, .fresh 0 0 led)) := hS
        have hS2 : ((s.heap.push { cls := .type "set", dict := none, data := .set #[] 0 (.fresh 0 0 led) }).push { cls := .type "str_ascii_iterator", data := .fields #[.str x u, .int 0 0] }).get? s.heap.objs.size = some (sObj "set" (#[], 0, .fresh 0 0 led)) := Heap.get?_push_of_some _ hSz
        have hI2 : ((s.heap.push { cls := .type "set", dict := none, data := .set #[] 0 (.fresh 0 0 led) }).push { cls := .type "str_ascii_iterator", data := .fields #[.str x u, .int 0 0] }).get? (s.heap.objs.size + 1) = some (itObj x u 0) := by
          rw [← e1]; exact Heap.get?_push_size _ rfl
        have hne2 : s.heap.objs.size ≠ s.heap.objs.size + 1 := by omega
        rw [e1]
        refine code_update (P := prog) (w := w) (x := x) (u := u) (T := "set") hne2 (by simp [hh]) x.cps.toList 0 (#[], 0, .fresh 0 0 led) [] _ (by simp) hS2 hI2 (TxOk.nil (fresh_fits led)) (by simp) hnd (by rw [Array.length_toList]; unfold scanBound; simp; omega) ?_
        obtain ⟨l', F', hl'⟩ := run_ok (w := w) (P := prog) x.cps.toList s.toks (#[], 0, .fresh 0 0 led) [] (TxOk.nil (fresh_fits led))
        refine wpAny_pure (wpAny_pure ⟨rfl, _, _, _, _, _, rfl, finU_get (m := x.cps.toList.length) hne2 hS2, F'.fit, by rw [F'.sz, hl']; simp, fun b o hb e => ?_⟩)
        exact finU_old (m := x.cps.toList.length) (Nat.ne_of_lt hb) (Nat.ne_of_lt (Nat.lt_succ_of_lt hb)) (Heap.get?_push_of_some _ (Heap.get?_push_of_some _ e))
      · cases r₂ with
        | error e => exact hr₂
        | ok fl₂ =>
          cases fl₂ with
          | ret r =>
            obtain ⟨rfl, h', tk, es, ep, t, rfl, hS', hf, hsz, hk'⟩ := hr₂
            repeat (any_goals (first | assumption | wp_step))
            exact h _ _ _ es ep t hS' rfl hf hsz hk'
          | _ => exact hr₂.elim
    | _ => exact hr.elim
end
def tLenSetS (ta : TE) : TE := fun σ H Q => ta σ H fun x H1 => ∃ z : Str, x = .str z ∧ z.cps.all (· < 128) = true ∧ z.cps.toList.Nodup ∧ z.cps.size ≤ 1000 ∧ Q (.int (z.cps.size : Nat)) H1
theorem pe_lenSetS {X : Cx} {a : Expr} {ta : TE} {p p2 q pos : Pos} (hg : Gl X "len") (hm : X.mg "len" = none) (hg2 : Gl X "set") (hm2 : X.mg "set" = none) (ha : PE X a ta) (hc : X.calm = true := by rfl)
    (na : starEach [a] X.env = (false, eval a X.env) :: starEach [] X.env := by rfl) : PE X (.Call (.Name "len" p) [.Call (.Name "set" p2) [a] [] q] [] pos) (tLenSetS ta) := by
  refine ⟨fun pins s σ H Q I h => ?_⟩
  refine Call_ (ld_blt I hg hm boot_len ?_)
  refine PyProof.Rows.callWith_builtin1 (PyProof.Rows.args_cons ?_ rfl) rfl rfl
  refine Call_ (ld_blt I hg2 hm2 boot_set ?_)
  refine PyProof.Rows.callWith_type1 (PyProof.Rows.args_cons (thn (ha.run pins s σ H _ I h) fun v s1 ⟨x, H1, I1, r1, q1⟩ => PyProof.Rows.args_nil ?_) na) na rfl
  obtain ⟨z, rfl, ha1, hnd, hl, q1⟩ := q1
  obtain ⟨u, rfl⟩ := r1
  refine call_set_text (I1.ok.hd hc) ha1 hnd hl fun h' tk o es ep t ho he hf hn hk => ?_
  refine PyProof.Rows.args_nil ?_
  subst he
  have I2 : Inv X pins σ H1 { s1 with heap := h', toks := tk } := I1.kept fun b o e => hk b o (Heap.lt_size e) e
  exact call_len_set ho ⟨rfl, rfl, rfl⟩ rfl hf (by rw [hn] <;> omega) ⟨.int z.cps.size, H1, I2.tok _, ⟨_, by rw [hn]⟩, q1⟩
theorem ee_lenSetS {X : Cx} {σ : L2.St} {S : Hp} {a : Expr} {z : Str} {p p2 q pos : Pos} (hm : X.mg "len" = none) (hm2 : X.mg "set" = none) (ha : EE X σ S a (Dt X.K (.str z))) (h1 : z.cps.all (· < 128) = true) (h2 : z.cps.toList.Nodup) (h3 : z.cps.size ≤ 1000) (hc : X.calm = true := by rfl) (hg : Gl X "len" := by rfl) (hg2 : Gl X "set" := by rfl)
    (na : starEach [a] X.env = (false, eval a X.env) :: starEach [] X.env := by rfl) : EE X σ S (.Call (.Name "len" p) [.Call (.Name "set" p2) [a] [] q] [] pos) (Dt X.K (.int (z.cps.size : Nat))) := fun H s Q qq =>
  he_of (pe_lenSetS hg hm hg2 hm2 peb hc na) (ha H s _ fun v S1 H1 g1 pv => by
    cases pv
    exact ⟨z, rfl, h1, h2, h3, qq _ S1 H1 g1 (.int _)⟩)
end Z

namespace Y
open PySem PySem.Spec PyProof.Rows L2 Z
/-! ## enumerate over a tuple -/
theorem meets_enumT {v : Value} {o : Obj} {H : Heap → Prop} (B : Begins v o H) :
    Meets (Builtin.«enumerate.__new__» ⟨[.type "enumerate", v], []⟩) (fun _ R s => H s.heap ∧
      R (.ok (.ret (.ref (s.heap.push o).objs.size))) { s with heap := (s.heap.push o).push { cls := .type "enumerate", data := .fields #[.none, .bool false, .ref s.heap.objs.size, rawInt 0, .none, .none] } }) :=
  .of_wp fun prog w A R s h => by
    obtain ⟨hp, g, d, tk, os⟩ := s; obtain ⟨h1, h⟩ := h
    have hsub := sub_enumerate
    have q1 : ∀ {A' : Around} {E : Value → Shared → Prop} {Q : Value → Shared → Prop}, Q (.ref hp.objs.size) ⟨hp.push o, g, d, tk, os⟩ → wpAny (model prog w) A' (pyIter v) Q E ⟨hp, g, d, tk, os⟩ :=
      fun q => B.iter prog w _ _ ⟨hp, g, d, tk, os⟩ _ h1 q
    wp_walk using q1
    refine wpAny_stack_any fun st => wpAny_pure ?_
    split
    · rename_i c _ _ _ _ _
      cases (c == Value.type "enumerate")
      · wp_walk using q1
        exact ⟨_, rfl, h⟩
      · wp_walk using q1
        exact ⟨_, rfl, h⟩
    · wp_walk using q1
      exact ⟨_, rfl, h⟩
theorem call_enumT {prog : Program} {w : World} {A : Around} {E : Value → Shared → Prop} {s : Shared} {v : Value} {o : Obj} {H : Heap → Prop} {Q : Value → Shared → Prop} (B : Begins v o H) (h1 : H s.heap)
    (h : ∀ h', IsEnum h' (s.heap.objs.size + 1) s.heap.objs.size 0 .none → h'.get? s.heap.objs.size = some o → h'.objs.size = s.heap.objs.size + 2 →
      (∀ b o, s.heap.get? b = some o → h'.get? b = some o) → Q (.ref (s.heap.objs.size + 1)) { s with heap := h' }) :
    wpAny (model prog w) A (call (.type "enumerate") [v]) Q E s := by
  refine callType_new F.called_enumerate (by decide) (F.typeCall_enumerate_1 _) (F.newCall_enumerate_1 _) (fun obj => F.args_object_init_2 obj _) F.entry_enumerate_new
    (meets_enumT B) ⟨h1, ?_⟩
  have hz : (s.heap.push o).objs.size = s.heap.objs.size + 1 := Heap.size_push ..
  show _ ∧ _
  rw [hz]
  have he : IsEnum ((s.heap.push o).push { cls := .type "enumerate", data := .fields #[.none, .bool false, .ref s.heap.objs.size, rawInt 0, .none, .none] }) (s.heap.objs.size + 1) s.heap.objs.size 0 .none := by
    have := Heap.get?_push_size (s.heap.push o) (o := { cls := .type "enumerate", data := .fields #[.none, .bool false, .ref s.heap.objs.size, rawInt 0, .none, .none] }) rfl
    rw [hz] at this; exact this
  refine ⟨⟨_, he, rfl⟩, h _ he (Heap.get?_push_of_some _ (Heap.get?_push_size _ B.free)) (by rw [Heap.size_push, hz]) fun b o x => Heap.get?_push_of_some _ (Heap.get?_push_of_some _ x)⟩
/-- the tuple at a, each item in a new pair -/
def IteT (K : PySem.W.Frag) (a : Addr) : It :=
  ⟨fun i H => ∃ (xs : List V) (x : V), SqT K H a xs ∧ xs[i]? = some x, fun i H v H' => ∃ T x, v = .ref T ∧ H T = none ∧ H' = upd H T (.tup [.int (i : Nat), x]) ∧ ∀ xs, SqT K H a xs → xs[i]? = some x, fun i H => ∃ xs : List V, SqT K H a xs ∧ xs.length ≤ i⟩
theorem isTup_tuple {h : Heap} {a : Addr} {its : Array Value} (p : IsTup h a its) : h.IsTuple a its := by
  obtain ⟨o, e, c, n, d⟩ := p
  exact ⟨o, e, c, n, d⟩
theorem apart_tup {h : Heap} {a it : Addr} {its : Array Value} {i : Nat} (p : h.IsTuple a its) (q : h.IsTupleIter it a i) : a ≠ it := by
  rintro rfl
  obtain ⟨o, e, c, _⟩ := p
  obtain ⟨o', e', c', _⟩ := q
  rw [e] at e'; cases e'
  rw [c] at c'
  exact absurd c' (by decide)
theorem apart_en {h : Heap} {a e it : Addr} {its : Array Value} {k : Int} {old : Value} (p : h.IsTuple a its) (q : IsEnum h e it k old) : e ≠ a := by
  rintro rfl
  obtain ⟨o, e, c, _⟩ := p
  have e' := q
  unfold IsEnum at e'
  rw [e] at e'; cases e'
  exact absurd (Value.type.inj c) (by decide)
theorem turn_enumT {P : Program} {w : World} {K : PySem.W.Frag} {elts : List Expr} {kk : Nat} {tpos : Pos} (a e it : Addr) :
    Turn P w K (.Tuple elts kk tpos) (IteT K a) [e, it] e (fun i h => (∃ old, IsEnum h e it ((i : Nat) : Int) old) ∧ h.IsTupleIter it a i ∧ e ≠ it) where
  mem := by simp
  obj := fun i h st b hb => by
    obtain ⟨⟨old, he⟩, ⟨o, ho, hc, hd⟩, _⟩ := st
    have e' : b = e ∨ b = it := by simpa using hb
    rcases e' with z | z
    · rw [z]; exact ⟨_, he, fun v q => nomatch q⟩
    · rw [z]; exact ⟨o, ho, fun v q => by rw [hd] at q; cases q⟩
  keep := fun i h h' st k => let ⟨⟨old, he⟩, hi, hne⟩ := st; ⟨⟨old, k e (by simp) _ he⟩, hi.at fun o q => k it (by simp) o q, hne⟩
  item := by
    intro X hP hw hK hc i pins s σ H E I hf st hg
    subst hP hw hK
    obtain ⟨⟨old, he⟩, hit, hne⟩ := st
    obtain ⟨xs, x, hq, hx⟩ := hg
    obtain ⟨its, rv, p, hz⟩ := I.tuple hq
    have p := isTup_tuple p
    obtain ⟨u, hu, ru⟩ := rv.get hx
    have hel : e < s.heap.objs.size := Heap.lt_size he
    have hil : it < s.heap.objs.size := by obtain ⟨_, q, _⟩ := hit; exact Heap.lt_size q
    have D : Draws X.prog X.w X.A.in1 it [it, a] its.toArray.size (fun i v => its.toArray[i]? = some v) (fun i h => h.IsTupleIter it a i ∧ h.IsTuple a its.toArray) := Draws.tuple (show X.A.in1.handled = none from I.ok.hd hc) it a (apart_tup p hit) its.toArray
    refine wpAny_pyNext_enum_itemD D he ⟨hit, p⟩ (by
        have := (List.getElem?_eq_some_iff.mp hu).1
        simpa using this) hne (by
        intro z
        rcases List.mem_cons.mp z with z | z
        · exact hne z
        · exact apart_en p he (List.mem_singleton.mp z)) fun x' h' tk hx' ho hit' hT hsz hk => ?_
    have hx'' : its.toArray[i]? = some x' := hx'
    obtain rfl : x' = u := by
      have h2 : its[i]? = some x' := by simpa using hx''
      rw [hu] at h2; exact (Option.some.inj h2).symm
    refine ⟨_, rfl, wpAny_letOwnedTupleGo_enum (s := { s with heap := h', toks := tk + 1 }) ho fun h'' he' sb => ?_⟩
    have hT2 : h''.get? s.heap.objs.size = some { cls := .type "tuple", data := .seq #[.int i tk, x'] } := (sb.2 _ (Nat.ne_of_gt hel)).trans hT
    have new : ObjOk X.prog X.w (upd H s.heap.objs.size (.tup [.int (i : Nat), x])) h'' s.heap.objs.size (.tup [.int (i : Nat), x]) :=
      ⟨by show 2 ≤ sizeLine; decide, [.int i tk, x'], .cons ⟨_, rfl⟩ (.cons ru .nil), ⟨_, hT2, rfl, _, rfl⟩⟩
    have I1 : Inv X pins σ (upd H s.heap.objs.size (.tup [.int (i : Nat), x])) { s with heap := h'', toks := tk + 1 } :=
      I.turnedNew (ch := [e, it]) (fun b ob hb q => (sb.2 b (fun z => hb (by simp [z]))).trans (hk b ob (fun z => hb (by simp [z])) (fun z => hb (by simp [z])) q)) hf (Nat.le_refl _) new
    refine ⟨.ref s.heap.objs.size, _, I1, rfl, ⟨_, x, rfl, I.hok.fresh (Nat.le_refl _), rfl, fun ys hy => by rw [I.tuple_inj hy hq]; exact hx⟩, ⟨⟨x', ?_⟩, hit'.1.at fun o q => (sb.2 it (Ne.symm hne)).trans q, hne⟩, fun b hb => ?_⟩
    · have e1 : ((i + 1 : Nat) : Int) = (i : Int) + 1 := by omega
      rw [e1]; exact he'
    · have hb' : b < s.heap.objs.size := by
        have e' : b = e ∨ b = it := by simpa using hb
        rcases e' with z | z
        · rw [z]; exact hel
        · rw [z]; exact hil
      rw [upd_ne (Nat.ne_of_lt hb')]
      exact (hf b hb).1
  done := by
    intro X hP hw hK hc i pins s σ H E I hf st hg
    subst hP hw hK
    obtain ⟨⟨old, he⟩, hit, hne⟩ := st
    obtain ⟨xs, hq, hx⟩ := hg
    obtain ⟨its, rv, p, hz⟩ := I.tuple hq
    have p := isTup_tuple p
    obtain ⟨f0, f1, f2, f3, f4, f5⟩ := hf it (by simp)
    have hl := rv.length
    have hT : s.TypeIs (.ref e) "enumerate" := ⟨_, he, rfl⟩
    unfold pyNext
    refine wpAny_bind (wpAny_attempt (wpAny_callSpecial?_slot (name := Str.ofString "__next__") hT F.slot_enumerate_next
      (wpAny_call_entry F.slot_enumerate_next hT F.entry_enumerate_next ?_ (F.args_enumerate_next_1 _))))
    show wpAny _ _ (PySem.field (.ref e) 2 >>= _) _ _ _
    refine wpAny_bind (wpAny_field he rfl (x := .ref it) rfl ?_)
    refine wpAny_bind (wpAny_nextOf_tuple_end (I.ok.hd hc) hit p (by simp; omega) fun h' x he' hx' => ?_)
    obtain ⟨o, ho, hc'⟩ := hx'
    refine wpAny_bind (wpAny_isInstance (T := "StopIteration") (b := true) ⟨o, ho, hc'⟩ isSubtype_stop ?_)
    exact wpAny_pure ⟨rfl, I.turned (t' := s.toks) (fun b o hb q => he' b o hb q) f0 f1 f3 f4 f5⟩
  self := fun A i s Q E st h => let ⟨⟨_, he⟩, _⟩ := st; wpAny_pyIter_enum he h
def iEnumT (K : PySem.W.Frag) (ta : TA) : TI := fun σ H R => ta σ H fun vs H1 => ∃ a xs, vs = [.ref a] ∧ SqT K H1 a xs ∧ R (IteT K a) H1
theorem pi_enumT {X : Cx} {tg e : Expr} {ta : TA} {p pos tpos : Pos} {elts : List Expr} {kk : Nat} (hg : Gl X "enumerate") (hm : X.mg "enumerate" = none) (ha : PA X [e] ta) (hs : starEach [e] X.env = [(false, eval e X.env)] := by rfl) :
    PI X (.Tuple elts kk tpos) (.Call (.Name "enumerate" p) [e] [] pos) (iEnumT X.K ta) := by
  refine ⟨fun pins s σ H R I h => ?_⟩
  refine Call_ (ld_blt I hg hm boot_enumerate (PyProof.Rows.callWith_type1 (thn (ha.run pos pins s σ H _ I h) fun us s1 ⟨vs, H1, I1, r1, q1⟩ => ?_) hs rfl))
  obtain ⟨a, xs, ex, hq, q⟩ := q1
  subst ex
  cases r1 with
  | cons r rr =>
    cases rr
    cases r
    obtain ⟨its, rv, p', hz⟩ := I1.tuple hq
    refine call_enumT (begins_tuple a its.toArray) (isTup_tuple p') fun h' he hit hsz hk => wpAny_pyIter_enum he ?_
    have I2 : Inv X pins σ H1 { s1 with heap := h' } := I1.kept (t' := s1.toks) hk
    refine ⟨s1.heap.objs.size + 1, [s1.heap.objs.size + 1, s1.heap.objs.size], _, _, H1, rfl, I2, turn_enumT a (s1.heap.objs.size + 1) s1.heap.objs.size, ⟨⟨.none, he⟩, ⟨_, hit, rfl, rfl⟩, Nat.succ_ne_self _⟩, fun b hb => ?_, q⟩
    have e' : b = s1.heap.objs.size + 1 ∨ b = s1.heap.objs.size := by simpa using hb
    have hle : s1.heap.objs.size ≤ b := by
      rcases e' with z | z
      · rw [z]; exact Nat.le_add_right _ _
      · rw [z]; exact Nat.le_refl _
    exact I1.fpOk hle (I1.hok.fresh hle)
section
variable {X : Cx} {σ : L2.St} {S S' : Hp} {e a b c o : Expr} {es : List Expr} {P R : V → Hp → Prop} {pos p : Pos} {ds : List PyData}
theorem ei_enumT {elts : List Expr} {kk : Nat} {tpos : Pos} (hm : X.mg "enumerate" = none) (ha : EE X σ S a (Dt X.K (.tuple ds))) (hg : Gl X "enumerate" := by rfl) (hs : starEach [a] X.env = [(false, eval a X.env)] := by rfl) :
    EI X σ S (.Tuple elts kk tpos) (.Call (.Name "enumerate" p) [a] [] pos) (Ds X.K (enumD ds)) := fun H s R q =>
  hi_of (pi_enumT (tg := a) hg hm pab hs) ((ea_1 ha (by rw [hs]; rfl)).2 H s _ fun vs S1 H1 g1 al => by
    obtain ⟨v, rfl, pv⟩ := al.one
    obtain ⟨l, xs, rfl, hl, hx, _⟩ := pv.tup_inv
    have hlen : (Ds X.K (enumD ds)).length = xs.length := by rw [ds_len]; unfold enumD zipD; rw [List.length_zipWith, upto_len, hx.1]; omega
    refine ⟨l, xs, rfl, sqt_up g1.sub hl, q _ S1 H1 g1 ⟨fun i H hi hs => ?_, fun H hs => ?_, fun i H x H' hi hs y T st th => ?_⟩⟩
    · rw [hlen] at hi
      exact ⟨xs, xs[i], sqt_up hs hl, by simp [hi]⟩
    · rw [hlen]
      exact ⟨xs, sqt_up hs hl, Nat.le_refl _⟩
    · rw [hlen] at hi
      obtain ⟨t, x1, rfl, ht, rfl, k1⟩ := y
      have i1 : i < ds.length := by rw [← hx.1]; omega
      exact ⟨_, Gr.new th ht, _, ds_get (zipD_get (upto_get i1) (List.getElem?_eq_getElem i1)), pair_new th ht (.int _) ((hx.2 i _ _ (k1 xs (sqt_up hs hl)) (List.getElem?_eq_getElem i1)).up st)⟩)
end
end Y

namespace Y
open PySem PySem.Spec PyProof.Rows L2 Z
/-! ## own classes -/
/-- a known method -/
structure KM (P : Program) (w : World) (K : PySem.W.Frag) (mg : Str → Option Value) (base : Heap) (C : Addr) (m : Str) (k : Nat) (sp : Sp) : Prop where
  ex : ∃ f fd ps, FnOk P w K mg base CX0 k f fd ps sp ∧ PySem.W.findIn K (.ref C) m = some (some (.ref f)) ∧ PySem.W.isFn K (.ref f) = true ∧ PySem.W.keepIn K (.ref f) = true ∧ Binds K fd ps []
theorem KM.mono {P : Program} {w : World} {K : PySem.W.Frag} {mg : Str → Option Value} {base : Heap} {C : Addr} {m : Str} {j k : Nat} {sp : Sp} (h : KM P w K mg base C m j sp) (hk : j ≤ k) : KM P w K mg base C m k sp := by
  obtain ⟨f, fd, ps, F, r⟩ := h.ex
  exact ⟨f, fd, ps, F.mono hk, r⟩
/-- an instance of the class at C without the attribute m of its own -/
def InsP (C : Addr) (m : Str) (P : V → Hp → Prop) : Prop := ∀ v S, P v S → ∃ a dx fs, v = .ref a ∧ S a = some (.ins C dx fs) ∧ fs.lookup m = none
section
variable {X : Cx} {σ : L2.St} {S S' H : Hp} {e a b c o : Expr} {es : List Expr} {P P0 R : V → Hp → Prop} {Ps : List (V → Hp → Prop)} {pos p apos : Pos} {k : Nat} {x m f : Str} {sp : Sp} {C dx r : Addr} {fs : List (Str × V)} {v : V} {D : Ends} {rest : List Stmt}
/-- o.f, an attribute -/
theorem ee_fld (ho : EE X σ S o P0) (hP : ∀ w S1, P0 w S1 → ∃ a dx fs v, w = .ref a ∧ S1 a = some (.ins C dx fs) ∧ fs.lookup f = some v ∧ P v S1) (c : Cls X.K C) (n : NoAttr X.K C f) (hb : attributeBase o f X.env (eval o X.env) = eval o X.env := by rfl) : EE X σ S (.Attribute o f pos) P := fun H s Q q =>
  he_of (pe_fld peb hb) (ho H s _ fun w S1 H1 g1 pw => by
    obtain ⟨a, dx, fs, v, rfl, h1, h2, pv⟩ := hP w S1 pw
    exact ⟨a, C, dx, fs, v, rfl, g1.sub _ _ h1, c, n, h2, q v S1 H1 g1 pv⟩)
/-- self.f = e where self is not yet told in S -/
theorem hs_fld (hv : EE X σ S e P) (s : Same S H) (ho : ∀ S1, Same S S1 → EE X σ S1 o (fun w _ => w = .ref r)) (hH : H r = some (.ins C dx fs)) (c : Cls X.K C) (n : NoAttr X.K C f) (hl : fs.length < 1000)
    (q : ∀ v S' H', Gr S H S' H' → P v S' → H' r = some (.ins C dx fs) → HS X D rest σ (upd H' r (.ins C dx (putF f v fs)))) (hs : swapsWith e (some (.Attribute o f apos)) pos.line X.env = pure false := by rfl) : HS X D (.Assign [.Attribute o f apos] e pos :: rest) σ H :=
  hs_cons (ps_fld peb peb hs) (hv H s _ fun v S1 H1 g1 pv => by
    refine (ho S1 g1.st) H1 g1.sub _ fun w S2 H2 g2 pw => ?_
    subst pw
    have e1 := g1.hh _ _ hH
    have e2 := g2.hh _ _ e1
    refine ⟨r, C, dx, fs, rfl, e2, c, n, hl, ?_⟩
    have hS : S2 = S2 := rfl
    exact q v S1 H2 ⟨g1.st, g2.st.trans g2.sub, g1.hh.trans g2.hh, g1.old⟩ pv e2)
theorem ee_meth {pl : Sem Bool} (D : KM X.prog X.w X.K X.mg X.base C m k sp) (c : Cls X.K C) (hr : Room k X.A) (ho : EE X σ S o P0) [Mn P0] (hP : InsP C m P0) (ha : EA X σ S (e :: es) Ps) (hsp : SpE sp S (P0 :: Ps) R)
    (hst : starEach (e :: es) X.env = (false, eval e X.env) :: starEach es X.env := by rfl) (hpl : (backTo pos (starEach es X.env)).any (·.1) = false := by rfl)
    (ht : eval (.Call (.Attribute o m apos) (e :: es) [] pos) X.env = (do
      let ov ← eval o X.env
      standAt apos.atName
      let (f, first) ← holding [ov] (getMethod ov m pl)
      callWith pos f first (backTo pos (starEach (e :: es) X.env)) (backToKw pos (keywordEach [] X.env))) := by rfl) : EE X σ S (.Call (.Attribute o m apos) (e :: es) [] pos) R := fun H s Q q => by
  obtain ⟨f, fd, ps, F, hm, hf, hk, hb⟩ := D.ex
  refine he_of (pe_meth peb c ⟨hm, hf, hk⟩ F hr hb .nil pass0 pab hst hpl ht) (ho H s _ fun w S1 H1 g1 pw => ?_)
  obtain ⟨a, dx, fs, rfl, h1, h2⟩ := hP w S1 pw
  refine ⟨a, dx, fs, rfl, g1.sub _ _ h1, h2, (ha.up g1.st).2 H1 g1.sub _ fun vs S2 H2 g2 al => ?_⟩
  rw [List.append_nil]
  exact hsp _ S2 H2 (g1.st.trans g2.st) g2.sub (.cons (Mn.up g2.st pw) al) Q fun v S3 H3 g3 rv => q v S3 H3 ((g1.trans g2).trans g3) rv
theorem ee_meth0 {pl : Sem Bool} (D : KM X.prog X.w X.K X.mg X.base C m k sp) (c : Cls X.K C) (hr : Room k X.A) (ho : EE X σ S o P0) (hP : InsP C m P0) (hsp : SpE sp S [P0] R)
    (ht : eval (.Call (.Attribute o m apos) [] [] pos) X.env = (do
      let ov ← eval o X.env
      standAt apos.atName
      let (f, first) ← holding [ov] (getMethod ov m pl)
      callWith pos f first (backTo pos (starEach [] X.env)) (backToKw pos (keywordEach [] X.env))) := by rfl) : EE X σ S (.Call (.Attribute o m apos) [] [] pos) R := fun H s Q q => by
  obtain ⟨f, fd, ps, F, hm, hf, hk, hb⟩ := D.ex
  refine he_of (pe_meth0 peb c ⟨hm, hf, hk⟩ F hr hb .nil pass0 ht) (ho H s _ fun w S1 H1 g1 pw => ?_)
  obtain ⟨a, dx, fs, rfl, h1, h2⟩ := hP w S1 pw
  refine ⟨a, dx, fs, rfl, g1.sub _ _ h1, h2, ?_⟩
  exact hsp _ S1 H1 g1.st g1.sub (.cons pw .nil) Q fun v S3 H3 g3 rv => q v S3 H3 (g1.trans g3) rv
/-- a call anywhere below the body -/
theorem run_fnA {CX : CXT} {k : Nat} {f : Addr} {fd : FuncData} {ps : List Str} {E : XK} {A : Around} {pins : List (Addr × Obj)} {s : Shared} {Q : VK} {us : List Value} {vs : List V} (F : FnOk X.prog X.w X.K X.mg X.base CX k f fd ps sp) (hr : Room k A) (hA : A.frames = X.A.frames) (hb : Binds X.K fd ps []) (hx : Passes CX X E)
    (I : Inv X pins σ H s) (r : Vals vs us) (h : sp vs H Q E) : wpAny (model X.prog X.w) A (call (.ref f) us) (EP X pins σ Q) X.xe s := by
  have hl : (us ++ []).length = ps.length := by rw [List.append_nil, ← r.length]; exact F.len _ _ _ _ h
  have e0 : Env0 X.prog X.w X.K X.mg X.base A X.stack s H := by
    have e := I.env0
    exact ⟨by rw [hA]; exact e.frames, e.mod, e.bs, e.bsz, e.funs, e.frf, e.hok, e.bare⟩
  refine wpAny_call (codeAny_mono (F.run A X.stack s H ⟨us, []⟩ us vs Q E hr e0 (by have := hb s us I.kIn hl; simpa using this) r h) fun r s' hq => ?_)
  cases r with
  | error e => exact hx pins σ H s e s' I hq
  | ok fl =>
    cases fl with
    | ret u => exact I.after hq
    | next => exact False.elim hq
    | brk => exact False.elim hq
    | cont => exact False.elim hq
theorem insAt {pins : List (Addr × Obj)} {s : Shared} {r : Addr} (I : Inv X pins σ H s) (e : H r = some (.ins C dx fs)) : ∃ ox od, PySem.W.InstAt s.heap r ox C (some od) := by
  obtain ⟨mA, J, _⟩ := ins_get I.hok e
  obtain ⟨od, J, _⟩ := J.look
  exact ⟨_, od, J⟩
/-- v in o, an own __contains__ that gives a bool -/
def rInO (C : Addr) (sp : Sp) : R2 := fun x y H Q => ∃ r dx fs, y = .ref r ∧ H r = some (.ins C dx fs) ∧ sp [y, x] H (fun v H' => ∃ b, v = .bl b ∧ Q (.bl b) H') E0
theorem op_inO (D : KM X.prog X.w X.K X.mg X.base C "__contains__" k sp) (hr : Room k X.A) : OpR X (compareOp .In) (rInO C sp) := by
  intro pins s σ H x y v u Q I rx ry hq
  obtain ⟨r, dx, fs, rfl, hy, q⟩ := hq
  cases ry
  obtain ⟨f, fd, ps, F, hm, hf, hk, hb⟩ := D.ex
  obtain ⟨ox, od, J⟩ := insAt I hy
  obtain ⟨m, hF⟩ := I.fr
  refine PySem.W.in_K hF I.ok.mod.kin J hm hf (wpAny_mono (run_fnA (vs := [.ref r, x]) F hr rfl hb pass0 I (.cons rfl (.cons rx .nil)) q) (fun rv s' hq' => ?_) fun _ _ z => z)
  obtain ⟨w, H', I', rw', b, rfl, q'⟩ := hq'
  cases rw'
  exact wpAny_truthy_bool ⟨.bl b, H', I', rfl, q'⟩
/-- what v's type is, told apart from C -/
structure NotC (K : PySem.W.Frag) (C : Addr) (v : V) (H : Hp) : Prop where
  ty : (∃ r dx fs, v = .ref r ∧ H r = some (.ins C dx fs)) ∨ (∃ z, v = .str z) ∧ PySem.W.subIn K (.type "str") (.ref C) = some false
def rEqO (K : PySem.W.Frag) (C : Addr) (sp : Sp) : R2 := fun x y H Q => ∃ r dx fs, x = .ref r ∧ H r = some (.ins C dx fs) ∧ NotC K C y H ∧ sp [x, y] H (fun v H' => ∃ b, v = .bl b ∧ Q (.bl b) H') E0
theorem notC_ok {pins : List (Addr × Obj)} {s : Shared} {y : V} {u : Value} (I : Inv X pins σ H s) (ry : RelV y u) (h : NotC X.K C y H) : ∃ tb, PySem.W.Looks (model X.prog X.w) s.heap (typeOf u) tb ∧ PySem.W.notFirst X.K C tb = true := by
  rcases h.ty with ⟨r, dx, fs, rfl, e⟩ | ⟨⟨z, rfl⟩, e⟩
  · cases ry
    obtain ⟨ox, od, J⟩ := insAt I e
    exact ⟨_, J.type, by simp [PySem.W.notFirst]⟩
  · obtain ⟨t, rfl⟩ := ry
    exact ⟨.type "str", PySem.W.Looks.of_pure rfl, by simp [PySem.W.notFirst, e]⟩
theorem op_eqO (D : KM X.prog X.w X.K X.mg X.base C "__eq__" k sp) (hr : Room k X.A) : OpR X (compareOp .Eq) (rEqO X.K C sp) := by
  intro pins s σ H x y v u Q I rx ry hq
  obtain ⟨r, dx, fs, rfl, hx, hy, q⟩ := hq
  cases rx
  obtain ⟨f, fd, ps, F, hm, hf, hk, hb⟩ := D.ex
  obtain ⟨ox, od, J⟩ := insAt I hx
  obtain ⟨m, hF⟩ := I.fr
  obtain ⟨tb, L, nf⟩ := notC_ok I ry hy
  show wpAny (model X.prog X.w) X.A (richCompare .Eq (.ref r) u) _ _ _
  refine PySem.W.cmp_K (op := .Eq) hr.units0 hF I.ok.mod.kin J L nf hm hf (wpAny_mono (run_fnA (vs := [.ref r, y]) F hr rfl hb pass0 I (.cons rfl (.cons ry .nil)) q) (fun rv s' hq' => ?_) fun _ _ z => z)
  obtain ⟨w, H', I', rw', b, rfl, q'⟩ := hq'
  cases rw'
  exact ⟨.bl b, H', I', rfl, q'⟩
end
section
open PySem.W
variable {prog : Program} {w : World} {A : Around} {E : Value → Shared → Prop} {s : Shared} {K : Frag} {x C L f : Addr} {h₀ : Heap} {m : Str → Option Value} {ox : Obj} {od : Option Obj} {b tb : Value}
theorem ifBound_B {M : Model} {name : Str} {id : String} {args : List Value} {Q : Option Value → Shared → Prop} (X : K.In s.heap) (I : InstAt s.heap x ox C od) (hs : findIn K (.ref C) name = some (some (.builtin id)))
    (hb : ∀ self, bindSpecial (.builtin id) self = pure (.builtin id, [self])) (h : wpAny M A (call (.builtin id) (.ref x :: args)) (fun v => Q (some v)) E s) : wpAny M A (callSpecialIfBound? (.ref x) name args) Q E s := by
  simp only [callSpecialIfBound?, bindSpecialIfBound?]
  refine wpAny_holding (wpAny_bind (wpAny_bind (wpAny_bind (I.type.here ((looks_findIn X hs).here ?_)))))
  refine wpAny_bind (wpAny_askSetting (wpAny_ite ?_))
  have fin : wpAny M A (call (.builtin id) ([.ref x] ++ args) >>= fun v => pure (some v)) Q E s := wpAny_bind (wpAny_mono h (fun v s' h' => wpAny_pure h') fun _ _ h' => h')
  split
  · exact wpAny_bind ((Looks.of_pure (hb _)).here (wpAny_pure (by exact fin)))
  · exact wpAny_tryCatch (wpAny_bind ((Looks.of_pure (hb _)).here (wpAny_pure (by exact fin))))
theorem ne_K {Q : Value → Shared → Prop} (hu : A.units + 1 < cLine) (F : Fr h₀ L s.heap m) (X₀ : K.In h₀) (I : InstAt s.heap x ox C od) (hb : Looks (model prog w) s.heap (typeOf b) tb) (hn : notFirst K C tb = true)
    (hne : findIn K (.ref C) "__ne__" = some (some (.builtin "object.__ne__"))) (hm : mroIn K C (.type "object") = some true) (hs : findIn K (.ref C) "__eq__" = some (some (.ref f))) (hf : isFn K (.ref f) = true)
    (h : wpAny (model prog w) A.in1 (call (.ref f) [.ref x, b]) (fun v s' => ∃ k, v = .bool k ∧ Q (.bool (!k)) s') E s) : wpAny (model prog w) A (richCompare .NotEq (.ref x) b) Q E s := by
  have X := X₀.keeps F.keep
  have inner : wpAny (model prog w) A.in1 (Builtin.«object.__ne__» ⟨[.ref x, b], []⟩) (fun fin s' => ∃ v, fin = .done (.ret v) ∧ (∃ k, v = .bool k ∧ Q (.bool k) s')) E s := by
    unfold Builtin.«object.__ne__»
    refine wpAny_bind (m := slotArgs "__ne__" 1 _) (wpAny_pure ?_)
    refine wpAny_bind (m := cRoomFor _ _) (wpAny_cRoomFor hu ?_)
    refine wpAny_bind (m := callSpecialIfBound? (.ref x) (Str.ofString "__eq__") [b]) (ifBound_K X I hs hf (wpAny_mono h (fun r s' hr => ?_) fun _ _ y => y))
    obtain ⟨k, rfl, hq⟩ := hr
    refine wpAny_bind (m := truthy (.bool k)) (wpAny_truthy_bool (wpAny_pure ⟨_, rfl, _, rfl, hq⟩))
  have one : wpAny (model prog w) A (tryCompare (.ref x) (cmpInfo .NotEq).2.1 b) (fun r s' => ∃ v, r = some v ∧ Q v s') E s := by
    unfold tryCompare
    refine wpAny_bind (ifBound_B X I hne PySem.F.slot_enumerate_ne.bind (wpAny_call (codeAny_call_builtin PySem.F.slot_enumerate_ne.plain PySem.F.cmpEntry_ne (check_slot (i := "object.__ne__") (owner := "object") (n := "__ne__") (by decide +kernel) (by decide +kernel) (I.type.andThen (looks_mroIn X hm)) (PySem.F.cmpArgs_ne _ _) ?_))))
    refine wpAny_mono inner (fun fin s' hq => ?_) fun _ _ e => e
    obtain ⟨v, rfl, k, rfl, q⟩ := hq
    exact wpAny_pure ⟨_, rfl, q⟩
  unfold richCompare
  simp only [oneThing_ref]
  refine wpAny_holding (wpAny_bind (wpAny_cRoomFor (Nat.lt_of_succ_lt hu) ?_))
  refine wpAny_bind (I.type.here (wpAny_bind (hb.here ?_)))
  split
  · rename_i q
    have e : subIn K tb (.ref C) = some false := by
      rcases Bool.or_eq_true_iff.mp hn with e | e
      · rw [beq_iff_eq.mp e] at q; simp at q
      · exact beq_iff_eq.mp e
    refine wpAny_bind ((looks_subIn X e).here ?_)
    simp only [Bool.false_eq_true, if_false]
    refine wpAny_bind (wpAny_mono one (fun r s' z => ?_) fun _ _ e => e)
    obtain ⟨v, rfl, hq⟩ := z
    exact wpAny_pure hq
  · refine wpAny_bind (wpAny_pure ?_)
    simp only [Bool.false_eq_true, if_false]
    refine wpAny_bind (wpAny_mono one (fun r s' z => ?_) fun _ _ e => e)
    obtain ⟨v, rfl, hq⟩ := z
    exact wpAny_pure hq
end
end Y

namespace Y
open PySem PySem.Spec PyProof.Rows L2 Z
section
variable {X : Cx} {σ : L2.St} {S S' H : Hp} {e a b c o : Expr} {es : List Expr} {P Pa Pb P0 R : V → Hp → Prop} {Ps : List (V → Hp → Prop)} {pos p apos : Pos} {k : Nat} {x m f : Str} {sp : Sp} {C dx r : Addr} {fs : List (Str × V)} {v : V} {D : Ends} {rest : List Stmt} {bo : Bool}
/-- the facts that an own class without __ne__ has -/
structure NeC (K : PySem.W.Frag) (C : Addr) : Prop where
  ne : PySem.W.findIn K (.ref C) "__ne__" = some (some (.builtin "object.__ne__"))
  ob : PySem.W.mroIn K C (.type "object") = some true
theorem op_neO (D : KM X.prog X.w X.K X.mg X.base C "__eq__" k sp) (N : NeC X.K C) (hr : Room (k + 1) X.A) : OpR X (compareOp .NotEq) (fun x y H Q => rEqO X.K C sp x y H (fun v H' => ∀ b, v = .bl b → Q (.bl (!b)) H')) := by
  intro pins s σ H x y v u Q I rx ry hq
  obtain ⟨r, dx, fs, rfl, hx, hy, q⟩ := hq
  cases rx
  obtain ⟨f, fd, ps, F, hm, hf, hk, hb⟩ := D.ex
  obtain ⟨ox, od, J⟩ := insAt I hx
  obtain ⟨m, hF⟩ := I.fr
  obtain ⟨tb, L, nf⟩ := notC_ok I ry hy
  show wpAny (model X.prog X.w) X.A (richCompare .NotEq (.ref r) u) _ _ _
  refine ne_K (by have := hr.in1.units0; simpa [Around.in1] using this) hF I.ok.mod.kin J L nf N.ne N.ob hm hf (wpAny_mono (run_fnA (vs := [.ref r, y]) F hr.in1 rfl hb pass0 I (.cons rfl (.cons ry .nil)) q) (fun rv s' hq' => ?_) fun _ _ z => z)
  obtain ⟨w, H', I', rw', b, rfl, q'⟩ := hq'
  cases rw'
  exact ⟨b, rfl, .bl (!b), H', I', rfl, q' b rfl⟩
/-- what the promise of an own == (or `in`) is to be: a bool -/
def CmpP (sp : Sp) (S : Hp) (Pa Pb : V → Hp → Prop) (b : Bool) : Prop := ∀ v w S1 H1, Same S S1 → Same S1 H1 → Pa v S1 → Pb w S1 → ∀ Q : VK, (∀ S2 H2, Gr S1 H1 S2 H2 → Q (.bl b) H2) → sp [v, w] H1 Q E0
theorem opE_eqO [Mn Pa] [Mn Pb] (hC : ∀ w S1, Pa w S1 → ∃ r dx fs, w = .ref r ∧ S1 r = some (.ins C dx fs)) (hN : ∀ w S1, Pb w S1 → NotC X.K C w S1) (h : CmpP sp S Pa Pb bo) : OpE (rEqO X.K C sp) S Pa Pb (Dt X.K (.bool bo)) := fun x y S1 H1 st s px py Q q => by
  obtain ⟨r, dx, fs, rfl, e⟩ := hC x S1 px
  refine ⟨r, dx, fs, rfl, s _ _ e, ⟨?_⟩, h _ _ S1 H1 st s px py _ fun S2 H2 g => ⟨bo, rfl, q _ S2 H2 g (.bl _)⟩⟩
  rcases (hN y S1 py).ty with ⟨r', dx', fs', rfl, e'⟩ | e'
  · exact Or.inl ⟨r', dx', fs', rfl, s _ _ e'⟩
  · exact Or.inr e'
theorem ee_eqO [Mn Pa] [Mn Pb] (D : KM X.prog X.w X.K X.mg X.base C "__eq__" k sp) (hr : Room k X.A) (ha : EE X σ S a Pa) (hb : EE X σ S b Pb) (hC : ∀ w S1, Pa w S1 → ∃ r dx fs, w = .ref r ∧ S1 r = some (.ins C dx fs)) (hN : ∀ w S1, Pb w S1 → NotC X.K C w S1) (h : CmpP sp S Pa Pb bo) (hm : behindInMarks .Eq b = false := by exact nomark _) : EE X σ S (.Compare a [.Eq] [b] pos) (Dt X.K (.bool bo)) :=
  ee_cmp (op_eqO D hr) ha hb (opE_eqO hC hN h) hm
theorem et_eqO [Mn Pa] [Mn Pb] (D : KM X.prog X.w X.K X.mg X.base C "__eq__" k sp) (hr : Room k X.A) (ha : EE X σ S a Pa) (hb : EE X σ S b Pb) (hC : ∀ w S1, Pa w S1 → ∃ r dx fs, w = .ref r ∧ S1 r = some (.ins C dx fs)) (hN : ∀ w S1, Pb w S1 → NotC X.K C w S1) (h : CmpP sp S Pa Pb bo) (hm : behindInMarks .Eq b = false := by exact nomark _) : ET X σ S (.Compare a [.Eq] [b] pos) bo :=
  et_cmp (op_eqO D hr) ha hb (opE_eqO hC hN h) hm
theorem opE_neO [Mn Pa] [Mn Pb] (hC : ∀ w S1, Pa w S1 → ∃ r dx fs, w = .ref r ∧ S1 r = some (.ins C dx fs)) (hN : ∀ w S1, Pb w S1 → NotC X.K C w S1) (h : CmpP sp S Pa Pb bo) : OpE (fun x y H Q => rEqO X.K C sp x y H (fun v H' => ∀ b, v = .bl b → Q (.bl (!b)) H')) S Pa Pb (Dt X.K (.bool (!bo))) := fun x y S1 H1 st s px py Q q => by
  obtain ⟨r, dx, fs, rfl, e⟩ := hC x S1 px
  refine ⟨r, dx, fs, rfl, s _ _ e, ⟨?_⟩, h _ _ S1 H1 st s px py _ fun S2 H2 g => ⟨bo, rfl, fun b' eb => ?_⟩⟩
  · rcases (hN y S1 py).ty with ⟨r', dx', fs', rfl, e'⟩ | e'
    · exact Or.inl ⟨r', dx', fs', rfl, s _ _ e'⟩
    · exact Or.inr e'
  · cases eb
    exact q _ S2 H2 g (.bl _)
theorem et_neO [Mn Pa] [Mn Pb] (D : KM X.prog X.w X.K X.mg X.base C "__eq__" k sp) (N : NeC X.K C) (hr : Room (k + 1) X.A) (ha : EE X σ S a Pa) (hb : EE X σ S b Pb) (hC : ∀ w S1, Pa w S1 → ∃ r dx fs, w = .ref r ∧ S1 r = some (.ins C dx fs)) (hN : ∀ w S1, Pb w S1 → NotC X.K C w S1) (h : CmpP sp S Pa Pb bo) (hm : behindInMarks .NotEq b = false := by exact nomark _) : ET X σ S (.Compare a [.NotEq] [b] pos) (!bo) :=
  et_cmp (op_neO D N hr) ha hb (opE_neO hC hN h) hm
theorem opE_inO [Mn Pa] [Mn Pb] (hC : ∀ w S1, Pb w S1 → ∃ r dx fs, w = .ref r ∧ S1 r = some (.ins C dx fs)) (h : CmpP sp S Pb Pa bo) : OpE (rInO C sp) S Pa Pb (Dt X.K (.bool bo)) := fun x y S1 H1 st s px py Q q => by
  obtain ⟨r, dx, fs, rfl, e⟩ := hC y S1 py
  exact ⟨r, dx, fs, rfl, s _ _ e, h _ _ S1 H1 st s py px _ fun S2 H2 g => ⟨bo, rfl, q _ S2 H2 g (.bl _)⟩⟩
theorem ee_inO [Mn Pa] [Mn Pb] (D : KM X.prog X.w X.K X.mg X.base C "__contains__" k sp) (hr : Room k X.A) (ha : EE X σ S a Pa) (hb : EE X σ S b Pb) (hC : ∀ w S1, Pb w S1 → ∃ r dx fs, w = .ref r ∧ S1 r = some (.ins C dx fs)) (h : CmpP sp S Pb Pa bo) (hm : behindInMarks .In b = false := by rfl) : EE X σ S (.Compare a [.In] [b] pos) (Dt X.K (.bool bo)) :=
  ee_cmp (op_inO D hr) ha hb (opE_inO hC h) hm
theorem et_inO [Mn Pa] [Mn Pb] (D : KM X.prog X.w X.K X.mg X.base C "__contains__" k sp) (hr : Room k X.A) (ha : EE X σ S a Pa) (hb : EE X σ S b Pb) (hC : ∀ w S1, Pb w S1 → ∃ r dx fs, w = .ref r ∧ S1 r = some (.ins C dx fs)) (h : CmpP sp S Pb Pa bo) (hm : behindInMarks .In b = false := by rfl) : ET X σ S (.Compare a [.In] [b] pos) bo :=
  et_cmp (op_inO D hr) ha hb (opE_inO hC h) hm
/-- repr(o), an own __repr__ that gives a text -/
theorem ee_repr (D : KM X.prog X.w X.K X.mg X.base C "__repr__" k sp) (hr : Room (k + 1) X.A) (hm : X.mg "repr" = none) (ha : EE X σ S a P0) [Mn P0] (hC : ∀ w S1, P0 w S1 → ∃ r dx fs, w = .ref r ∧ S1 r = some (.ins C dx fs)) {z : Str} (hsp : SpE sp S [P0] (Dt X.K (.str z))) (hg : Gl X "repr" := by rfl)
    (he : starEach [a] X.env = (false, eval a X.env) :: starEach [] X.env := by rfl) (hpl : (backTo pos (starEach [] X.env)).any (·.1) = false := by rfl) : EE X σ S (.Call (.Name "repr" p) [a] [] pos) (Dt X.K (.str z)) := by
  have hc : CallR X (.builtin "repr") (fun vs H Q => ∃ r dx fs, vs = [.ref r] ∧ H r = some (.ins C dx fs) ∧ sp vs H (fun v H' => ∃ z, v = .str z ∧ Q (.str z) H') E0) := by
    intro pins s σ H vs us Q I rv hq
    obtain ⟨r, dx, fs, rfl, hx, q⟩ := hq
    obtain ⟨f, fd, ps, F, hm, hf, hk, hb⟩ := D.ex
    obtain ⟨u, rfl, rx⟩ : ∃ u, us = [u] ∧ RelV (.ref r) u := by
      cases rv with
      | cons h t => cases t; exact ⟨_, rfl, h⟩
    cases rx
    obtain ⟨ox, od, J⟩ := insAt I hx
    obtain ⟨m, hF⟩ := I.fr
    refine PySem.W.repr_K (by have := hr.in1.units0; simpa [Around.in1] using this) hF I.ok.mod.kin J hm hf (wpAny_mono (run_fnA (vs := [.ref r]) F hr.in1 rfl hb pass0 I (.cons rfl .nil) q) (fun rv s' hq' => ?_) fun _ _ z => z)
    obtain ⟨w, H', I', rw', b, rfl, q'⟩ := hq'
    obtain ⟨t, rfl⟩ := rw'
    exact ⟨.str b, H', I', ⟨t, rfl⟩, q'⟩
  refine ee_callB hc hm (by first | rfl | decide +kernel) (ea_1 ha he) (fun vs S1 H1 st s al Q q => ?_) hg (by decide) (by decide) he hpl
  obtain ⟨v, rfl, pv⟩ := al.one
  obtain ⟨r, dx, fs, rfl, e⟩ := hC v S1 pv
  exact ⟨r, dx, fs, rfl, s _ _ e, hsp _ S1 H1 st s (.cons pv .nil) _ fun v S2 H2 g pv => by
    cases pv
    exact ⟨z, rfl, q _ S2 H2 g (.str _)⟩⟩
end
/-! ## a new instance -/
structure GrI (a : Addr) (S H S' H' : Hp) : Prop where
  st : Same S S'
  sub : Same S' H'
  hh : ∀ z o, z ≠ a → H z = some o → H' z = some o
  old : ∀ z o, z ≠ a → H z = some o → S' z = S z
/-- what __init__ promises -/
def spI (C : Addr) (K : PySem.W.Frag) (F : List PyData → (Addr → V → Hp → Prop) → Prop) : Sp := fun vs H Q _ => ∃ S a dx ws ds R, vs = .ref a :: ws ∧ Same S H ∧ S a = none ∧ H a = some (.ins C dx []) ∧ Dts K ds ws S ∧ F ds R ∧ ∀ l S' H', GrI a S H S' H' → S l = none → R l (.ref a) S' → Q .non H'
/-- a thing whose part at l is new -/
def NewR (R : Addr → V → Hp → Prop) (S : Hp) : V → Hp → Prop := fun v S' => ∃ l, S l = none ∧ R l v S'
theorem NewR.dn {R : Addr → V → Hp → Prop} {S S0 S' : Hp} {v : V} (s : Same S0 S) (h : NewR R S v S') : NewR R S0 v S' := let ⟨l, a, b⟩ := h; ⟨l, s.free a, b⟩
instance {R : Addr → V → Hp → Prop} {S : Hp} [h : ∀ l, Mn (R l)] : Mn (NewR R S) := ⟨fun s ⟨l, a, b⟩ => ⟨l, a, (h l).up s b⟩⟩
theorem GrI.step {a : Addr} {S H S1 H1 S2 H2 : Hp} (i : GrI a S H S1 H1) (g : Gr S1 H1 S2 H2) : GrI a S H S2 H2 :=
  ⟨i.st.trans g.st, g.sub, fun z o n h => g.hh _ _ (i.hh z o n h), fun z o n h => (g.old z o (i.hh z o n h)).trans (i.old z o n h)⟩
theorem GrI.put {a : Addr} {S H S1 H1 : Hp} {o : HO} (i : GrI a S H S1 H1) (h : S a = none) : GrI a S H (upd S1 a o) (upd H1 a o) :=
  ⟨fun z u e => by
    have ne : z ≠ a := fun q => by subst q; rw [h] at e; cases e
    rw [upd_ne ne]; exact i.st z u e, fun z u e => by
    by_cases ne : z = a
    · subst ne; rw [upd_same] at e ⊢; exact e
    · rw [upd_ne ne] at e ⊢; exact i.sub z u e, fun z u n e => by rw [upd_ne n]; exact i.hh z u n e, fun z u n e => by rw [upd_ne n]; exact i.old z u n e⟩
theorem GrI.start {a : Addr} {S H : Hp} {o : HO} (s : Same S H) (h : S a = none) (e : H a = some o) : GrI a S H (upd S a o) H :=
  ⟨Same.new h, fun z u q => by
    by_cases ne : z = a
    · subst ne; rw [upd_same] at q; rw [e]; exact q
    · rw [upd_ne ne] at q; exact s z u q, fun z u n q => q, fun z u n q => upd_ne n⟩
section
variable {X : Cx} {σ : L2.St} {S S' H : Hp} {e a b c o : Expr} {es : List Expr} {P P0 : V → Hp → Prop} {Ps : List (V → Hp → Prop)} {pos p apos : Pos} {k : Nat} {x m : Str} {sp : Sp} {C f : Addr} {fd : FuncData} {ps : List Str} {ds dd : List PyData} {dvs : List V} {us : List Value} {R : Addr → V → Hp → Prop}
theorem make_init {F : List PyData → (Addr → V → Hp → Prop) → Prop} {vs : List V} {S1 H1 : Hp} {a dx : Addr} {Q : Hp → Prop} (s : Same S1 H1) (hd : Dts X.K ds vs S1) (hF : F ds R) (ha : H1 a = none) (hdx : H1 dx = none) (hne : dx ≠ a) (q : ∀ S2 H2, Gr S1 H1 S2 H2 → NewR R S1 (.ref a) S2 → Q H2) :
    spI C X.K F (.ref a :: vs) (upd (upd H1 dx (.own a)) a (.ins C dx [])) (fun v H2 => v = .non ∧ Q H2) E0 := by
  have hst : Same H1 (upd (upd H1 dx (.own a)) a (.ins C dx [])) := (Same.new hdx).trans (Same.new (by rw [upd_ne hne.symm]; exact ha))
  refine ⟨S1, a, dx, vs, ds, R, rfl, s.trans hst, s.free ha, upd_same, hd, hF, fun l S' H' g hl r => ⟨rfl, q S' H' ⟨g.st, g.sub, fun z o hz => ?_, fun z o hz => ?_⟩ ⟨l, hl, r⟩⟩⟩
  · exact g.hh z o (ne_of_none hz ha) (hst z o hz)
  · exact g.old z o (ne_of_none hz ha) (hst z o hz)
theorem ee_make {F : List PyData → (Addr → V → Hp → Prop) → Prop} (M : Mk X.K C f) (G : FnOk X.prog X.w X.K X.mg X.base CX0 k f fd ps (spI C X.K F)) (hr : Room (k + 1) X.A) (hm : X.mg x = some (.ref C)) (hb : Binds X.K fd ps us) (hd : Vals dvs us) (hdd : ∀ S, Dts X.K dd dvs S) (ha : EA X σ S (e :: es) (Ds X.K ds)) (hF : F (ds ++ dd) R)
    (hg : Gl X x := by rfl) (hdb : (x == ("__debug__" : Str)) = false := by decide) (he : starEach (e :: es) X.env = (false, eval e X.env) :: starEach es X.env := by rfl) (hpl : (backTo pos (starEach es X.env)).any (·.1) = false := by rfl) : EE X σ S (.Call (.Name x p) (e :: es) [] pos) (NewR R S) := fun H s Q q =>
  he_of (pe_make M G hr hg hm hb hd pass0 pab hdb he hpl) (ha.2 H s _ fun vs S1 H1 g1 al a dx h1 h2 h3 =>
    make_init g1.sub ((al_dts al).append (hdd S1)) hF h1 h2 h3 fun S2 H2 g2 r => q _ S2 H2 (g1.trans g2) (r.dn g1.st))
theorem ee_makeK2 {F : List PyData → (Addr → V → Hp → Prop) → Prop} {k1 k2 : Str} {e1 e2 : Expr} {q1 q2 : Pos} {d1 d2 : PyData} {g : List Value → List Value → List Value} {gV : List V → List V → List V} (M : Mk X.K C f) (G : FnOk X.prog X.w X.K X.mg X.base CX0 k f fd ps (spI C X.K F)) (hr : Room (k + 1) X.A) (hm : X.mg x = some (.ref C)) (hb : KBn X.K fd ps 1 [k1, k2] g gV) (hgV : ∀ s v w, gV [s] [v, w] = [s, w, v]) (h1 : EE X σ S e1 (Dt X.K d1)) (h2 : EE X σ S e2 (Dt X.K d2)) (hF : F [d2, d1] R)
    (hall : (backToKw pos (keywordEach [⟨some k1, e1, q1⟩, ⟨some k2, e2, q2⟩] X.env)).all (·.1.isSome) = true := by rfl) (hks : (backToKw pos (keywordEach [⟨some k1, e1, q1⟩, ⟨some k2, e2, q2⟩] X.env)).filterMap (·.1) = [k1, k2] := by rfl) (hdb : (x == ("__debug__" : Str)) = false := by decide)
    (hpl : ((backTo pos (starEach [] X.env)).any (·.1) || (backToKw pos (keywordEach [⟨some k1, e1, q1⟩, ⟨some k2, e2, q2⟩] X.env)).any (·.1.isNone)) = false := by rfl) (hg : Gl X x := by rfl) : EE X σ S (.Call (.Name x p) [] [⟨some k1, e1, q1⟩, ⟨some k2, e2, q2⟩] pos) (NewR R S) := fun H s Q q =>
  he_of (pe_makeK0 M G hr hg hm hb pass0 (pk_cons (te := bE X e1) peb (pk_cons (te := bE X e2) (t := tNil) peb pk_nil)) hall hks hdb hpl) (h1 H s _ fun v S1 H1 g1 pv => (h2.up g1.st) H1 g1.sub _ fun w S2 H2 g2 pw => ⟨rfl, rfl, fun a dx a1 a2 a3 => by
    rw [hgV]
    exact make_init (vs := [w, v]) g2.sub (Dts.cons pw (Dts.cons (pv.up g2.st) Dts.nil)) hF a1 a2 a3 fun S3 H3 g3 r => q _ S3 H3 ((g1.trans g2).trans g3) (r.dn (g1.st.trans g2.st))⟩)
end
end Y

namespace Y
open PySem PySem.Spec PyProof.Rows L2 Z
section
variable {X : Cx} {σ : L2.St} {S S' H : Hp} {e a b c o : Expr} {es : List Expr} {P Pa Pb P0 R : V → Hp → Prop} {Ps : List (V → Hp → Prop)} {pos p apos : Pos} {i j l : Int} {d : PyData} {ds : List PyData} {k : Bool}
/-- a <= b <= c -/
theorem et_chainLE (ha : EE X σ S a (Dt X.K (.int i))) (hb : EE X σ S b (Dt X.K (.int j))) (hc : EE X σ S c (Dt X.K (.int l))) (hm : lastMarks [.LtE, .LtE] [b, c] = false := by with_unfolding_all rfl) : ET X σ S (.Compare a [.LtE, .LtE] [b, c] pos) (decide (i ≤ j) && decide (j ≤ l)) := fun H s Q q =>
  ht_of (pt_chain op_le op_le peb peb peb hm) (ha H s _ fun x S1 H1 g1 px => (hb.up g1.st) H1 g1.sub _ fun y S2 H2 g2 py => by
    cases px; cases py
    refine ⟨i, j, rfl, rfl, decide (i ≤ j), rfl, ?_⟩
    by_cases h : i ≤ j
    · rw [if_pos (decide_eq_true h)]
      exact (hc.up (g1.st.trans g2.st)) H2 g2.sub _ fun z S3 H3 g3 pz => by
        cases pz
        refine ⟨j, l, rfl, rfl, decide (j ≤ l), rfl, ?_⟩
        have := q S3 H3 ((g1.trans g2).trans g3)
        rw [decide_eq_true h, Bool.true_and] at this
        exact this
    · rw [if_neg (by rw [decide_eq_false h]; exact Bool.false_ne_true)]
      refine ⟨false, rfl, ?_⟩
      have := q S2 H2 (g1.trans g2)
      rw [decide_eq_false h, Bool.false_and] at this
      exact this)
/-- a sign not in a text -/
theorem et_notInC {n : Nat} {z : Str} (ha : EE X σ S a (Dt X.K (.str ⟨#[n]⟩))) (hb : EE X σ S b (Dt X.K (.str z))) (hm : behindInMarks .NotIn b = false := by with_unfolding_all rfl) : ET X σ S (.Compare a [.NotIn] [b] pos) (!decide (n ∈ z.cps.toList)) :=
  et_cmp op_notIn_sign ha hb (fun v w S1 H1 _ s px py Q q => by cases px; cases py; exact ⟨n, z, rfl, rfl, q _ S1 H1 (Gr.refl s) (.bl _)⟩) hm
theorem ee_inC {n : Nat} {z : Str} (ha : EE X σ S a (Dt X.K (.str ⟨#[n]⟩))) (hb : EE X σ S b (Dt X.K (.str z))) (hm : behindInMarks .In b = false := by with_unfolding_all rfl) : EE X σ S (.Compare a [.In] [b] pos) (Dt X.K (.bool (decide (n ∈ z.cps.toList)))) :=
  ee_cmp op_in_sign ha hb (fun v w S1 H1 _ s px py Q q => by cases px; cases py; exact ⟨n, z, rfl, rfl, q _ S1 H1 (Gr.refl s) (.bl _)⟩) hm
/-- isinstance(a, (list, tuple)) -/
theorem ee_isiLT (hk : k = (isD d "list" || isD d "tuple")) (hm : X.mg "isinstance" = none) (h1 : X.mg "list" = none) (h2 : X.mg "tuple" = none) (ha : EE X σ S a (Dt X.K d)) {p1 p2 p3 : Pos} {x1} (hg : Gl X "isinstance" := by rfl) (hg1 : Gl X "list" := by rfl) (hg2 : Gl X "tuple" := by rfl)
    (hs : starEach [a, .Tuple [.Name "list" p1, .Name "tuple" p2] x1 p3] X.env = (false, eval a X.env) :: starEach [.Tuple [.Name "list" p1, .Name "tuple" p2] x1 p3] X.env := by rfl) : EE X σ S (.Call (.Name "isinstance" p) [a, .Tuple [.Name "list" p1, .Name "tuple" p2] x1 p3] [] pos) (Dt X.K (.bool k)) := by
  haveI m1 : Mn (fun (w : V) (_ : Hp) => w = .ty "list") := ⟨fun _ h => h⟩
  haveI m2 : Mn (fun (w : V) (_ : Hp) => w = .ty "tuple") := ⟨fun _ h => h⟩
  haveI m3 : Mn (fun (w : V) (S : Hp) => ∃ t, w = .ref t ∧ S t = some (.tup [.ty "list", .ty "tuple"])) := ⟨fun s ⟨t, e, h⟩ => ⟨t, e, s _ _ h⟩⟩
  have ht : EE X σ S (.Tuple [.Name "list" p1, .Name "tuple" p2] x1 p3) (fun (w : V) (S : Hp) => ∃ t, w = .ref t ∧ S t = some (.tup [.ty "list", .ty "tuple"])) :=
    ee_tupA (vsP := fun vs _ => vs = [.ty "list", .ty "tuple"]) (fun H s Q q => (ea_2 (ee_bltn (P := fun w _ => w = .ty "list") (v := .ty "list") (u := .type "list") h1 (by first | rfl | decide +kernel | exact boot_list) rfl rfl hg1 (by decide) (by decide)) (ee_bltn (P := fun w _ => w = .ty "tuple") (v := .ty "tuple") (u := .type "tuple") h2 (by first | rfl | decide +kernel | exact boot_tuple) rfl rfl hg2 (by decide) (by decide)) rfl rfl).2 H s Q fun vs S' H' g al => q vs S' H' g (by
        obtain ⟨v, w, rfl, rfl, rfl⟩ := al.two
        rfl)) (fun vs _ e => by subst e; show 2 ≤ 16777216; decide) (fun vs S' t st ht e => by subst e; exact ⟨t, rfl, upd_same⟩)
  refine ee_callB call_isiT hm boot_isinstance (ea_2 ha ht hs rfl) (fun vs S1 H1 _ s al Q q => ?_) hg (he := hs) (hpl := by rfl)
  obtain ⟨v, w, rfl, pv, t, rfl, pw⟩ := al.two
  refine ⟨v, t, [.ty "list", .ty "tuple"], .type (tyN d), [.type "list", .type "tuple"], k, rfl, s _ _ pw, .cons (.ty "list") (.cons (.ty "tuple") .nil), tyX_of pv s, ?_, q _ S1 H1 (Gr.refl s) (.bl k)⟩
  subst hk
  refine kitAny_cons (kit_ty (isD_ok d (by simp))) (fun e => kitAny_cons (kit_ty (isD_ok d (by simp))) (fun e2 => ?_) (fun e2 => ?_)) (fun e => ?_)
  · rw [e, e2]; exact kitAny_nil
  · rw [e2]; simp
  · rw [e]; simp
/-- list(a): a new list -/
def NewL (K : PySem.W.Frag) (S : Hp) (ds : List PyData) : V → Hp → Prop := fun v S' => ∃ l xs, v = .ref l ∧ S l = none ∧ S' l = some (.lst xs) ∧ Dts K ds xs S' ∧ xs.length ≤ sizeLine
instance {K : PySem.W.Frag} {S : Hp} {ds : List PyData} : Mn (NewL K S ds) := ⟨fun s ⟨l, xs, e, h, h1, h2, z⟩ => ⟨l, xs, e, h, s _ _ h1, h2.up s, z⟩⟩
theorem NewL.dt {K : PySem.W.Frag} {S S' : Hp} {ds : List PyData} {v : V} (h : NewL K S ds v S') : Dt K (.list ds) v S' := by
  obtain ⟨l, xs, rfl, _, h1, h2, z⟩ := h
  exact Dt.lst_mk h1 h2 z
theorem NewL.dn {K : PySem.W.Frag} {S S0 S' : Hp} {ds : List PyData} {v : V} (s : Same S0 S) (h : NewL K S ds v S') : NewL K S0 ds v S' := by
  obtain ⟨l, xs, rfl, h0, h1, h2, z⟩ := h
  exact ⟨l, xs, rfl, s.free h0, h1, h2, z⟩
theorem ee_listN (hm : X.mg "list" = none) (hd : d = .list ds ∨ d = .tuple ds) (ha : EE X σ S a (Dt X.K d)) (hg : Gl X "list" := by rfl)
    (hs : starEach [a] X.env = (false, eval a X.env) :: starEach [] X.env := by rfl) : EE X σ S (.Call (.Name "list" p) [a] [] pos) (NewL X.K S ds) :=
  ee_callTy call_list_of hm boot_list (ea_1 ha hs) (fun vs S1 H1 st s al Q q => by
    obtain ⟨v, rfl, pv⟩ := al.one
    rcases hd with rfl | rfl
    · obtain ⟨l, xs, rfl, hl, hx, z⟩ := pv.lst_inv
      exact ⟨l, xs, rfl, .inl (sql_of (s _ _ hl)), fun t ht => q _ _ _ (Gr.new s ht) ⟨t, xs, rfl, st.free (s.free ht), upd_same, hx.up (Same.new (s.free ht)), z⟩⟩
    · obtain ⟨l, xs, rfl, hl, hx, z⟩ := pv.tup_inv
      exact ⟨l, xs, rfl, .inr (sqt_up s hl), fun t ht => q _ _ _ (Gr.new s ht) ⟨t, xs, rfl, st.free (s.free ht), upd_same, hx.up (Same.new (s.free ht)), z⟩⟩) hg (he := hs) (hpl := by rfl)
/-- (x,) * n -/
theorem tuple_mul1 (l : Addr) (items : Array Value) (n : Nat) (dd : Option Addr) (sl : Array (Option Value)) (u : Tok) :
    Meets (Builtin.«tuple.__mul__» ⟨[.ref l, .int 1 u], []⟩) (fun _ R s => s.heap.get? l = some { cls := .type "tuple", dict := dd, data := .seq items n, slots := sl } ∧ R (.ok (.ret (Value.ref l))) s) :=
  .of_wp fun prog w A R s h => by
    obtain ⟨hp, g, d, tk, os⟩ := s
    obtain ⟨hl, h⟩ := h
    have f1 := AutoSeq1.idx_int
    have c0 : (decide ((1 : Int) < -(2 ^ 63)) || decide ((1 : Int) ≥ 2 ^ 63)) = false := by decide
    have c1 : (items.isEmpty || (1 : Int) == 1) = true := by simp
    wp_walk using wpAny_loadPart' hl
    repeat (first
      | (refine wpAny_ite_false (decide_eq_false (by rw [c0]; exact Bool.false_ne_true)) ?_; wp_walk using wpAny_loadPart' hl)
      | (refine wpAny_ite_true (decide_eq_true c1) ?_; wp_walk using wpAny_loadPart' hl))
    exact ⟨_, rfl, h⟩
def rRep1 (K : PySem.W.Frag) : R2 := fun x y H Q => ∃ l xs, x = .ref l ∧ y = .int 1 ∧ SqT K H l xs ∧ Q (.ref l) H
theorem op_rep1 : OpR X (binaryOp .Mult) (rRep1 X.K) := by
  intro pins s σ H x y v u Q I rx ry h
  obtain ⟨l, xs, rfl, rfl, hT, q⟩ := h
  cases rx
  obtain ⟨t, rfl⟩ := ry
  obtain ⟨its, r, ⟨⟨cls, dd, data, sl⟩, ho, hc, n, hd⟩, hs⟩ := I.tuple hT
  simp only at hc hd
  subst hc hd
  refine wpAny_binaryOp_repeat_ref (T := "tuple") (U := "int") (by decide) ⟨_, ho, rfl⟩ (fun s' => typeIs_int s' 1 t) noFill_tuple_mul F.fills_int_mul F.slot_int_rmul repeat_tuple F.slot_int_index.lookup
    (call_meets F.slot_int_rmul (typeIs_int s 1 t) F.entry_int_rmul (F.args_int_rmul_2 _ _) (int_rmul_tuple 1 t l its.toArray n dd sl)
      ⟨ho, rfl, ⟨_, ho, rfl⟩, call_meets F.slot_tuple_mul ⟨_, ho, rfl⟩ F.entry_tuple_mul (F.args_tuple_mul_2 _ _) (tuple_mul1 l its.toArray n dd sl t) ⟨ho, ?_⟩⟩)
  exact ⟨.ref l, H, I, rfl, q⟩
theorem ee_repT {n : Nat} (hn : 1 ≤ n) (hz : n ≤ 1000) (hc : ds.length ≤ 1000) (hne : ds ≠ []) (ha : EE X σ S a (Dt X.K (.tuple ds))) (hb : EE X σ S b (Dt X.K (.int n))) : EE X σ S (.BinOp a .Mult b pos) (Dt X.K (.tuple (List.replicate n ds).flatten)) := by
  by_cases h1 : n = 1
  · subst h1
    refine (ee_op op_rep1 ha hb (R := Dt X.K (.tuple ds)) fun x y S1 H1 _ s px py Q q => ?_).isd (by simp)
    cases py
    obtain ⟨l, xs, rfl, hl, hx, z⟩ := px.tup_inv
    exact ⟨l, xs, rfl, rfl, sqt_up s hl, q _ S1 H1 (Gr.refl s) (Dt.tup_mk hl hx z)⟩
  · refine ee_op op_repT ha hb fun x y S1 H1 _ s px py Q q => ?_
    cases py
    obtain ⟨l, xs, rfl, hl, hx, z⟩ := px.tup_inv
    refine ⟨l, n, xs, rfl, rfl, sqt_up s hl, fun e => hne ?_, by omega, by omega, by rw [hx.1]; exact hc, fun t ht => q _ _ _ (Gr.new s ht) ?_⟩
    · have := hx.1; rw [e] at this; exact List.eq_nil_of_length_eq_zero this.symm
    · have e : ((n : Int)).toNat = n := by omega
      rw [e]
      refine Dt.tup_mk (sqt_of upd_same) ((flat_dts (d := .none) rfl hx _).up (Same.new (s.free ht))) ?_
      rw [flatten_len, hx.1]
      have : ds.length * n ≤ 1000 * 1000 := Nat.mul_le_mul hc hz
      show _ ≤ 16777216
      omega
/-- z[::-1] of a text -/
def revS (z : Str) : Str := ⟨z.cps.toList.reverse.toArray⟩
theorem ssi1 : Builtin.Str.strSliceIndices none none (-1) 1 = [0] := by decide +kernel
theorem ssi2 : Builtin.Str.strSliceIndices none none (-1) 2 = [1, 0] := by decide +kernel
theorem ssi3 : Builtin.Str.strSliceIndices none none (-1) 3 = [2, 1, 0] := by decide +kernel
theorem sliceBy_eq {z : Str} {u : Tok} {q : List Nat} (h : Builtin.Str.strSliceIndices none none (-1) z.length = q) : Txt.sliceBy z none none (-1, u) = ⟨(q.filterMap (z.cps[·]?)).toArray⟩ := by
  subst h
  rfl
theorem sliceBy_rev3 {z : Str} {u : Tok} (h : z.cps.size ≤ 3) : Txt.sliceBy z none none (-1, u) = revS z := by
  obtain ⟨⟨l⟩⟩ := z
  match l, h with
  | [], _ => rfl
  | [a], _ => exact (sliceBy_eq (z := ⟨⟨[a]⟩⟩) (u := u) (q := [0]) ssi1).trans rfl
  | [a, b], _ => exact (sliceBy_eq (z := ⟨⟨[a, b]⟩⟩) (u := u) (q := [1, 0]) ssi2).trans rfl
  | [a, b, c], _ => exact (sliceBy_eq (z := ⟨⟨[a, b, c]⟩⟩) (u := u) (q := [2, 1, 0]) ssi3).trans rfl
  | _ :: _ :: _ :: _ :: _, h => simp at h
def tRevS (te : TE) : TE := fun σ H Q => te σ H fun x H1 => ∃ z : Str, x = .str z ∧ z.cps.size ≤ 3 ∧ Q (.str (revS z)) H1
theorem pe_revS {e : Expr} {te : TE} {k : Nat} {p1 p2 p3 pos : Pos} (he : PE X e te) (ht : ∀ x t r, letTemporaryGo e (.str x t) r = pure () := by intro _ _ _; with_unfolding_all rfl)
    (hs : ∀ x t q, subscripted (.Slice none none (some (.UnaryOp .USub (.Constant (.int 1) k p1) p2)) p3) false (.str x t) (.ref q) = operate [.ref q, .str x t] (getItem (.str x t) (.ref q)) := by intro _ _ _; with_unfolding_all rfl) : PE X (.Subscript e (.Slice none none (some (.UnaryOp .USub (.Constant (.int 1) k p1) p2)) p3) pos) (tRevS te) := by
  refine ⟨fun pins s σ H Q I h => ?_⟩
  refine Subscript_ (thn (he.run pins s σ H _ I h) fun v s1 ⟨x, H1, I1, r1, q1⟩ => ?_)
  obtain ⟨z, rfl, hz, q⟩ := q1
  obtain ⟨t, rfl⟩ := r1
  have hst : PO X (some (.UnaryOp .USub (.Constant (.int 1) k p1) p2)) (tPart (tUn (rU fun i => .int (-i)) (tC (.int 1)))) := po_some (pe_un un_neg pe_int)
  refine wpAny_Slice (thn (po_none.run pins s1 σ H1 (fun o H2 => o = none ∧ H2 = H1) I1 ⟨rfl, rfl⟩) fun vl s2 ⟨l, H2, I2, pl, el, e2⟩ => ?_)
  subst el e2
  refine thn (po_none.run pins s2 σ H2 (fun o H3 => o = none ∧ H3 = H2) I2 ⟨rfl, rfl⟩) fun vu s3 ⟨u, H3, I3, pu, eu, e3⟩ => ?_
  subst eu e3
  refine thn (hst.run pins s3 σ H3 (fun o H4 => o = some (-1) ∧ H4 = H3) I3 ⟨1, rfl, -1, rfl, rfl, rfl⟩) fun vs s4 ⟨o, H4, I4, ps, eo, e4⟩ => ?_
  subst eo e4
  have el : vl = .none := by cases pl; rfl
  have eu : vu = .none := by cases pu; rfl
  obtain ⟨uk, es⟩ : ∃ uk, vs = .int (-1) uk := by cases ps; exact ⟨_, rfl⟩
  subst el eu es
  have I5 : Inv X pins σ H4 { s4 with heap := s4.heap.push { cls := .type "slice", data := .fields #[.none, .none, .int (-1) uk] } } := I4.kept (t' := s4.toks) fun b ob q => Heap.get?_push_of_some _ q
  have hsz : z.length ≤ sizeLine := Nat.le_trans hz (by show 3 ≤ 16777216; decide)
  refine tail_of_ItemOn ⟨"str", _, F.slot_str_getitem.lookup, typeIs_str _ _ _, wpAny_getItem_str_slice (l := none) (u := none) (st := some (-1, uk)) ⟨_, Heap.get?_push_size _ rfl, rfl, rfl⟩ (by rfl)
    (post_val_or_str ⟨Nat.le_trans (Txt.sliceBy_le z _ _ (-1, uk) (by simp)) hsz, fun t' c => ?_⟩)⟩ (hs _ _ _) (ht _ _)
  exact ⟨.str (revS z), H4, I5.tok _, ⟨t', by first | rfl | (have := sliceBy_rev3 (u := uk) hz; rw [← this]; rfl)⟩, q⟩
end
end Y

namespace Y
open PySem PySem.Spec PyProof.Rows L2 Z
section
variable {X : Cx} {σ : L2.St} {S S' H : Hp} {e a b c o : Expr} {es : List Expr} {P Pa Pb P0 P1 R : V → Hp → Prop} {Ps : List (V → Hp → Prop)} {pos p apos kpos : Pos} {i j l : Int} {d : PyData} {ds ds1 ds2 : List PyData} {k : Nat} {x m f kn : Str} {sp : Sp} {C dx r : Addr} {D : Ends} {rest : List Stmt}
/-! ### o.m(k = e) -/
structure KMK (P : Program) (w : World) (K : PySem.W.Frag) (mg : Str → Option Value) (base : Heap) (C : Addr) (m kn : Str) (k : Nat) (sp : Sp) : Prop where
  ex : ∃ f fd ps, FnOk P w K mg base CX0 k f fd ps sp ∧ PySem.W.findIn K (.ref C) m = some (some (.ref f)) ∧ PySem.W.isFn K (.ref f) = true ∧ PySem.W.keepIn K (.ref f) = true ∧ KBn K fd ps 1 [kn] (fun us ws => us ++ ws) (fun vs zs => vs ++ zs)
theorem run_fnK {CX : CXT} {k n : Nat} {f : Addr} {fd : FuncData} {ps ks : List Str} {E : XK} {pins : List (Addr × Obj)} {s : Shared} {Q : VK} {us ws : List Value} {vs zs : List V} {g : List Value → List Value → List Value} {gV : List V → List V → List V} (F : FnOk X.prog X.w X.K X.mg X.base CX k f fd ps sp) (hr : Room k X.A) (hb : KBn X.K fd ps n ks g gV) (hx : Passes CX X E)
    (I : Inv X pins σ H s) (r : Vals vs us) (rz : Vals zs ws) (l1 : vs.length = n) (l2 : zs.length = ks.length) (h : sp (gV vs zs) H Q E) : wpAny (model X.prog X.w) X.A (call (.ref f) us (ks.zip ws)) (EP X pins σ Q) X.xe s := by
  have r2 := hb.rel r rz
  refine wpAny_call (codeAny_mono (F.run X.A X.stack s H ⟨us, ks.zip ws⟩ (g us ws) (gV vs zs) Q E hr I.env0 (hb.to s us ws I.kIn (r.length.symm.trans l1) (rz.length.symm.trans l2)) r2 h) fun r s' hq => ?_)
  cases r with
  | error e => exact hx pins σ H s e s' I hq
  | ok fl =>
    cases fl with
    | ret u => exact I.after hq
    | next => exact False.elim hq
    | brk => exact False.elim hq
    | cont => exact False.elim hq
theorem ee_methK {pl : Sem Bool} (D : KMK X.prog X.w X.K X.mg X.base C m kn k sp) (c : Cls X.K C) (hr : Room k X.A) (ho : EE X σ S o P0) [Mn P0] [Mn P1] (hP : InsP C m P0) (ha : EE X σ S e P1) (hsp : SpE sp S [P0, P1] R)
    (hall : (backToKw pos (keywordEach [⟨some kn, e, kpos⟩] X.env)).all (·.1.isSome) = true := by rfl) (hks : (backToKw pos (keywordEach [⟨some kn, e, kpos⟩] X.env)).filterMap (·.1) = [kn] := by rfl)
    (hpl : ((backTo pos (starEach [] X.env)).any (·.1) || (backToKw pos (keywordEach [⟨some kn, e, kpos⟩] X.env)).any (·.1.isNone)) = false := by rfl)
    (ht : eval (.Call (.Attribute o m apos) [] [⟨some kn, e, kpos⟩] pos) X.env = (do
      let ov ← eval o X.env
      standAt apos.atName
      let (f, first) ← holding [ov] (getMethod ov m pl)
      callWith pos f first (backTo pos (starEach [] X.env)) (backToKw pos (keywordEach [⟨some kn, e, kpos⟩] X.env))) := by rfl) : EE X σ S (.Call (.Attribute o m apos) [] [⟨some kn, e, kpos⟩] pos) R := fun H s Q q => by
  obtain ⟨f, fd, ps, F, hm, hf, hk, hb⟩ := D.ex
  intro pins s0 I
  refine PySem.W.methodCall_KW (pl := pl) (thn (ho H s (fun w H1 => ∃ S1, Gr S H S1 H1 ∧ P0 w S1) (fun v S1 H1 g1 pw => ⟨S1, g1, pw⟩) pins s0 I) fun u s1 ⟨w, H1, I1, rx, S1, g1, pw⟩ => ?_) ht
  obtain ⟨a, dx, fs, rfl, h1, h2⟩ := hP w S1 pw
  obtain rfl : u = Value.ref a := rx
  refine getmeth_ok I1 (g1.sub _ _ h1) c ⟨hm, hf, hk⟩ h2 ?_
  refine PySem.W.callWith_KW0 (h₀ := X.base) (first := [.ref a]) I.ok.mod.kin hk hall ?_ hpl
  refine thn ((pk_cons (te := bE X e) (t := tNil) peb pk_nil).run pos pins s1 σ H1 (fun zs H2 => ∃ v S2, zs = [v] ∧ Gr S1 H1 S2 H2 ∧ P1 v S2) I1 ((ha.up g1.st) H1 g1.sub _ fun v S2 H2 g2 pv => ⟨v, S2, rfl, g2, pv⟩)) fun ws s2 ⟨zs, H2, I2, rz, v, S2, ez, g2, pv⟩ => ⟨I2.kIn, ?_⟩
  subst ez
  rw [hks]
  exact run_fnK (us := [.ref a]) (vs := [.ref a]) (zs := [v]) F hr hb pass0 I2 (.cons rfl .nil) rz rfl rfl (hsp _ S2 H2 (g1.st.trans g2.st) g2.sub (.cons (Mn.up g2.st pw) (.cons pv .nil)) Q fun v S3 H3 g3 rv => q v S3 H3 ((g1.trans g2).trans g3) rv)
/-! ### a def with a star parameter -/
structure KMS (P : Program) (w : World) (K : PySem.W.Frag) (mg : Str → Option Value) (base : Heap) (C : Addr) (m : Str) (k : Nat) (sp : Sp) : Prop where
  ex : ∃ f, FnR P w K mg base CX0 k f sp ∧ PySem.W.findIn K (.ref C) m = some (some (.ref f)) ∧ PySem.W.isFn K (.ref f) = true ∧ PySem.W.keepIn K (.ref f) = true
theorem ee_methS {pl : Sem Bool} (D : KMS X.prog X.w X.K X.mg X.base C m k sp) (c : Cls X.K C) (hr : Room k X.A) (ho : EE X σ S o P0) [Mn P0] (hP : InsP C m P0) (ha : EA X σ S (e :: es) Ps) (hsp : SpE sp S (P0 :: Ps) R)
    (hst : starEach (e :: es) X.env = (false, eval e X.env) :: starEach es X.env := by rfl) (hpl : (backTo pos (starEach es X.env)).any (·.1) = false := by rfl)
    (ht : eval (.Call (.Attribute o m apos) (e :: es) [] pos) X.env = (do
      let ov ← eval o X.env
      standAt apos.atName
      let (f, first) ← holding [ov] (getMethod ov m pl)
      callWith pos f first (backTo pos (starEach (e :: es) X.env)) (backToKw pos (keywordEach [] X.env))) := by rfl) : EE X σ S (.Call (.Attribute o m apos) (e :: es) [] pos) R := fun H s Q q => by
  obtain ⟨f, F, hm, hf, hk⟩ := D.ex
  refine he_of (pe_methR peb c ⟨hm, hf, hk⟩ F hr pass0 pab hst hpl ht) (ho H s _ fun w S1 H1 g1 pw => ?_)
  obtain ⟨a, dx, fs, rfl, h1, h2⟩ := hP w S1 pw
  refine ⟨a, dx, fs, rfl, g1.sub _ _ h1, h2, (ha.up g1.st).2 H1 g1.sub _ fun vs S2 H2 g2 al => ?_⟩
  exact hsp _ S2 H2 (g1.st.trans g2.st) g2.sub (.cons (Mn.up g2.st pw) al) Q fun v S3 H3 g3 rv => q v S3 H3 ((g1.trans g2).trans g3) rv
theorem ee_methS0 {pl : Sem Bool} (D : KMS X.prog X.w X.K X.mg X.base C m k sp) (c : Cls X.K C) (hr : Room k X.A) (ho : EE X σ S o P0) (hP : InsP C m P0) (hsp : SpE sp S [P0] R)
    (ht : eval (.Call (.Attribute o m apos) [] [] pos) X.env = (do
      let ov ← eval o X.env
      standAt apos.atName
      let (f, first) ← holding [ov] (getMethod ov m pl)
      callWith pos f first (backTo pos (starEach [] X.env)) (backToKw pos (keywordEach [] X.env))) := by rfl) : EE X σ S (.Call (.Attribute o m apos) [] [] pos) R := fun H s Q q => by
  obtain ⟨f, F, hm, hf, hk⟩ := D.ex
  intro pins s0 I
  refine PySem.W.methodCall_KW (pl := pl) (thn (ho H s (fun w H1 => ∃ S1, Gr S H S1 H1 ∧ P0 w S1) (fun v S1 H1 g1 pw => ⟨S1, g1, pw⟩) pins s0 I) fun u s1 ⟨w, H1, I1, rx, S1, g1, pw⟩ => ?_) ht
  obtain ⟨a, dx, fs, rfl, h1, h2⟩ := hP w S1 pw
  obtain rfl : u = Value.ref a := rx
  refine getmeth_ok I1 (g1.sub _ _ h1) c ⟨hm, hf, hk⟩ h2 ?_
  exact PySem.W.callWith_K0 (first := [.ref a]) I1.kIn hk (wpAny_call (run_fnR (us := [.ref a]) (vs := [.ref a]) F hr pass0 I1 (.cons rfl .nil) (hsp _ S1 H1 g1.st g1.sub (.cons pw .nil) Q fun v S3 H3 g3 rv => q v S3 H3 (g1.trans g3) rv)))
/-! ### f-strings -/
inductive EJ (X : Cx) (σ : L2.St) (S : Hp) : List Expr → List Str → Prop
  | nil : EJ X σ S [] []
  | cons {e : Expr} {es : List Expr} {y : Str} {ys : List Str} : EE X σ S e (Dt X.K (.str y)) → EJ X σ S es ys → EJ X σ S (e :: es) (y :: ys)
theorem EJ.pj {es : List Expr} {ys : List Str} (h : EJ X σ S es ys) : PJ X es (es.map (bE X)) := by
  induction h with
  | nil => exact .nil
  | cons _ _ ih => exact .cons peb ih
theorem EJ.run {es : List Expr} {ys : List Str} (h : EJ X σ S es ys) : ∀ (acc : Str) (S1 H1 : Hp) (Q : Str → Hp → Prop), Same S S1 → Same S1 H1 → acc.length + (ys.map (·.length)).sum ≤ sizeLine → (∀ S2 H2, Gr S1 H1 S2 H2 → Q (ys.foldl (· ++ ·) acc) H2) → tJs (es.map (bE X)) acc σ H1 Q := by
  induction h with
  | nil => intro acc S1 H1 Q _ s _ q; exact q S1 H1 (Gr.refl s)
  | @cons e es y ys he _ ih =>
    intro acc S1 H1 Q st s hz q
    rw [List.map_cons, List.sum_cons] at hz
    have el : (acc ++ y).length = acc.length + y.length := by
      show (acc.cps ++ y.cps).size = _
      rw [Array.size_append]; rfl
    refine (he.up st) H1 s _ fun v S2 H2 g2 pv => ?_
    cases pv
    exact ⟨y, rfl, by rw [el]; omega, ih (acc ++ y) S2 H2 Q (st.trans g2.st) g2.sub (by rw [el]; omega) fun S3 H3 g3 => q S3 H3 (g2.trans g3)⟩
theorem ee_joined {v1 v2 : Expr} {rest : List Expr} {ys : List Str} (h : EJ X σ S (v1 :: v2 :: rest) ys) (hz : (ys.map (·.length)).sum ≤ sizeLine) : EE X σ S (.JoinedStr (v1 :: v2 :: rest) pos) (Dt X.K (.str (ys.foldl (· ++ ·) Str.empty))) := fun H s Q q =>
  he_of (pe_joined h.pj) (h.run Str.empty S H _ (Same.refl S) s (by show 0 + _ ≤ _; omega) fun S2 H2 g => q _ S2 H2 g (.str _))
theorem ee_fmtS {y : Str} (hz : y.length ≤ sizeLine) (h : EE X σ S e (Dt X.K (.str y))) : EE X σ S (.FormattedValue e (-1) none pos) (Dt X.K (.str y)) := fun H s Q q =>
  he_of (pe_fmt peb) (h H s _ fun v S1 H1 g pv => by cases pv; exact .inl ⟨y, rfl, hz, q _ S1 H1 g (.str _)⟩)
theorem ee_fmtI (hz : i.natAbs.log2 < 1920) (h : EE X σ S e (Dt X.K (.int i))) : EE X σ S (.FormattedValue e (-1) none pos) (Dt X.K (.str (toString i))) := fun H s Q q =>
  he_of (pe_fmt peb) (h H s _ fun v S1 H1 g pv => by cases pv; exact .inr ⟨i, rfl, hz, q _ S1 H1 g (.str _)⟩)
/-! ### [*a, *b] -/
theorem ee_lst2 {p1 p2 : Pos} {d1 d2 : PyData} (h1 : d1 = .list ds1 ∨ d1 = .tuple ds1) (h2 : d2 = .list ds2 ∨ d2 = .tuple ds2) (hz : ds1.length + ds2.length ≤ sizeLine) (ha : EE X σ S a (Dt X.K d1)) (hb : EE X σ S b (Dt X.K d2)) (hs1 : starEach [.Starred a p1, .Starred b p2] X.env = (true, eval a X.env) :: starEach [.Starred b p2] X.env := by rfl) (hs2 : starEach [.Starred b p2] X.env = (true, eval b X.env) :: starEach [] X.env := by rfl) :
    EE X σ S (.List [.Starred a p1, .Starred b p2] pos) (Dt X.K (.list (ds1 ++ ds2))) := by
  have key : ∀ {d : PyData} {ds : List PyData} {v : V} {S1 H1 : Hp}, (d = .list ds ∨ d = .tuple ds) → Same S1 H1 → Dt X.K d v S1 → ∃ p xs, v = .ref p ∧ (SqT X.K H1 p xs ∨ SqL X.K H1 p xs) ∧ Dts X.K ds xs S1 := by
    intro d ds v S1 H1 hd s pv
    rcases hd with rfl | rfl
    · obtain ⟨l, xs, rfl, hl, hx, _⟩ := pv.lst_inv
      exact ⟨l, xs, rfl, .inr (sql_of (s _ _ hl)), hx⟩
    · obtain ⟨l, xs, rfl, hl, hx, _⟩ := pv.tup_inv
      exact ⟨l, xs, rfl, .inl (sqt_up s hl), hx⟩
  refine ee_lstA (vsP := fun vs S' => Dts X.K (ds1 ++ ds2) vs S') (fun H s Q q => ?_) (fun vs S' h => by rw [h.1, List.length_append]; exact hz) (fun vs S' p st hp h => Dt.lst_mk upd_same (h.up (Same.new hp)) (by rw [h.1, List.length_append]; exact hz))
  refine ha_of (StX.pa_star (te := bE X a) (t := StX.tStar X.K (bE X b) tNil) peb (StX.pa_star peb pa_nil hs2) hs1) (ha H s _ fun v S1 H1 g1 pv => ?_)
  obtain ⟨p, xs, rfl, hp, hx⟩ := key h1 g1.sub pv
  refine ⟨p, xs, rfl, hp, (hb.up g1.st) H1 g1.sub _ fun w S2 H2 g2 pw => ?_⟩
  obtain ⟨p', ys, rfl, hp', hy⟩ := key h2 g2.sub pw
  exact ⟨p', ys, rfl, hp', by
    show Q (xs ++ (ys ++ [])) H2
    rw [List.append_nil]
    exact q _ S2 H2 (g1.trans g2) ((hx.up g2.st).append hy)⟩
/-! ### a new list is changed -/
def del (S : Hp) (l : Addr) : Hp := fun a => if a = l then none else S a
theorem del_self {S : Hp} {l : Addr} : del S l l = none := by unfold del; rw [if_pos rfl]
theorem del_ne {S : Hp} {l a : Addr} (h : a ≠ l) : del S l a = S a := by unfold del; rw [if_neg h]
theorem del_sub {S : Hp} {l : Addr} : Same (del S l) S := fun a o h => by
  by_cases e : a = l
  · subst e; rw [del_self] at h; cases h
  · rw [del_ne e] at h; exact h
theorem Gr.cut {Sb Hb S H : Hp} {l : Addr} {o : HO} (g : Gr Sb Hb S H) (sb : Same Sb Hb) (h : Hb l = none) : Gr Sb Hb (del S l) (upd H l o) := by
  have hs : Sb l = none := sb.free h
  exact ⟨fun a u e => by
    have ne : a ≠ l := fun z => by subst z; rw [hs] at e; cases e
    rw [del_ne ne]; exact g.st a u e, fun a u e => by
    by_cases ne : a = l
    · subst ne; rw [del_self] at e; cases e
    · rw [del_ne ne] at e; rw [upd_ne ne]; exact g.sub a u e, fun a u e => by
    have ne : a ≠ l := fun z => by subst z; rw [h] at e; cases e
    rw [upd_ne ne]; exact g.hh a u e, fun a u e => by
    have ne : a ≠ l := fun z => by subst z; rw [h] at e; cases e
    rw [del_ne ne]; exact g.old a u e⟩
/-- a new list's address is not in what stood -/
theorem Gr.isnew {Sb Hb S H : Hp} {l : Addr} {o : HO} (g : Gr Sb Hb S H) (h0 : Sb l = none) (h1 : S l = some o) : Hb l = none := by
  cases e : Hb l with
  | none => rfl
  | some u => have := g.old l u e; rw [h0, h1] at this; cases this
theorem mts {id : String} {r : V → List V → Hp → VK → Prop} (h : MtM X id r) : MtR X id r := h
/-- o.clear(), o the list at l -/
theorem hs_clear {xs : List V} {lp : Addr} (ho : EE X σ S o (fun w _ => w = .ref lp)) (s : Same S H) (hl : S lp = some (.lst xs)) (q : ∀ S' H', Gr S H S' H' → HS X D rest σ (upd H' lp (.lst []))) (hbase : attributeBase o "clear" X.env (eval o X.env) = eval o X.env := by rfl) (hline : (apos.endLine == p.line) = true := by rfl) (hs : swapsWith (.Call (.Attribute o "clear" apos) [] [] p) none pos.line X.env = pure false := by rfl) : HS X D (.Expr (.Call (.Attribute o "clear" apos) [] [] p) pos :: rest) σ H :=
  hs_cons (ps_expr (pe_bm0 PySem.F.plainAttrs_list PySem.F.slot_list_clear PySem.F.type_list_clear mt_clear peb hbase hline) hs) (ho H s _ fun w S1 H1 g1 pw => by
    subst pw
    have e := g1.sub _ _ (g1.st _ _ hl)
    exact ⟨.inl ⟨rfl, _, .inl (.inl e)⟩, lp, xs, rfl, rfl, e, q S1 H1 g1⟩)
/-- o.append(e), o a new list -/
theorem hs_append {ds : List PyData} (ho : EE X σ S o (NewL X.K S ds)) (s : Same S H) (hz : ds.length < 1000) [Mn P] (ha : EE X σ S e P) (q : ∀ l xs v S' H', Gr S H S' H' → S l = none → S' l = some (.lst xs) → HS X D rest σ (upd H' l (.lst (xs ++ [v])))) (hbase : attributeBase o "append" X.env (eval o X.env) = eval o X.env := by rfl) (hline : (apos.endLine == p.line) = true := by rfl)
    (hs : swapsWith (.Call (.Attribute o "append" apos) [e] [] p) none pos.line X.env = pure false := by rfl) (hst : starEach [e] X.env = (false, eval e X.env) :: starEach [] X.env := by rfl)
    (hfew : ((backTo p (starEach [e] X.env)).all (fun x => !x.1) && (backToKw p (keywordEach [] X.env)).all (fun x => x.1.isSome) && decide ([e].length + ([] : List Keyword).length + (if ([] : List Keyword).isEmpty then 0 else 1) < 30)) = true := by rfl) : HS X D (.Expr (.Call (.Attribute o "append" apos) [e] [] p) pos :: rest) σ H :=
  hs_cons (ps_expr (pe_bm PySem.F.plainAttrs_list PySem.F.slot_list_append PySem.F.type_list_append mt_append peb (pa_cons (te := bE X e) (t := tNil) peb pa_nil hst) hbase hfew hline hst (by rfl)) hs) (ho H s _ fun w S1 H1 g1 pw => by
    obtain ⟨l, xs, rfl, h0, h1, h2, h3⟩ := pw
    refine ⟨.inl ⟨rfl, _, .inl (.inl (g1.sub _ _ h1))⟩, ?_⟩
    exact (ha.up g1.st) H1 g1.sub _ fun v S2 H2 g2 pv => ⟨l, xs, v, rfl, rfl, g2.sub _ _ (g2.st _ _ h1), by rw [h2.1]; show _ < 16777216; omega, q l xs v S2 H2 (g1.trans g2) h0 (g2.st _ _ h1)⟩)
end
end Y

namespace Y
open PySem PySem.Spec PyProof.Rows L2 Z
section
variable {X : Cx} {σ : L2.St} {S S' H : Hp} {a b e : Expr} {Pa Pb : V → Hp → Prop} {pos p px py pt : Pos} {D : Ends} {rest : List Stmt} {x y : Str} {i j kt : Nat}
/-- x, y = a, b by a pair -/
theorem hs_unp2 [Mn Pa] [Mn Pb] {x1} (hc : X.calm = true) (hN : X.N.Nodup) (ha : EE X σ S a Pa) (hb : EE X σ S b Pb) (s : Same S H)
    (q : ∀ v w S' H', Pa v S' → Pb w S' → Gr S H S' H' → HS X D rest ((σ.set i (some v)).set j (some w)) H')
    (hi : X.N[i]? = some x := by rfl) (hj : X.N[j]? = some y := by rfl) (hx : Loc X.env.scope x := by first | exact Or.inl rfl | exact Or.inr rfl) (hy : Loc X.env.scope y := by first | exact Or.inl rfl | exact Or.inr rfl)
    (hfx : X.fn x = true ∨ X.env.scope.names.lookup x = some .local := by first | exact .inl rfl | exact .inr rfl) (hfy : X.fn y = true ∨ X.env.scope.names.lookup y = some .local := by first | exact .inl rfl | exact .inr rfl)
    (hn : (assignEach [.Name x px, .Name y py] X.env).length = 2 := by rfl) (hst : (assignEach [.Name x px, .Name y py] X.env).findIdx? (·.1) = none := by rfl)
    (h1 : (assignEach [.Name x px, .Name y py] X.env).map (·.2) = assign (.Name x px) X.env :: (assignEach [.Name y py] X.env).map (·.2) := by rfl) (h2 : (assignEach [.Name y py] X.env).map (·.2) = assign (.Name y py) X.env :: (assignEach [] X.env).map (·.2) := by rfl)
    (hss : swapsWithSole [.Tuple [.Name x px, .Name y py] kt pt] (.Tuple [a, b] x1 p) pos.line X.env = pure false := by rfl) (hw : swappedStores [.Tuple [.Name x px, .Name y py] kt pt] (.Tuple [a, b] x1 p) X.env = pure none := by rfl)
    (h3 : (assignEach [.Tuple [.Name x px, .Name y py] kt pt] X.env).map (·.2) = [assign (.Tuple [.Name x px, .Name y py] kt pt) X.env] := by rfl)
    (hs1 : starEach [a, b] X.env = (false, eval a X.env) :: starEach [b] X.env := by rfl) (hs2 : starEach [b] X.env = (false, eval b X.env) :: starEach [] X.env := by rfl) : HS X D (.Assign [.Tuple [.Name x px, .Name y py] kt pt] (.Tuple [a, b] x1 p) pos :: rest) σ H := by
  have ht : EE X σ S (.Tuple [a, b] x1 p) (fun v S' => ∃ l v1 v2, v = .ref l ∧ S' l = some (.tup [v1, v2]) ∧ Pa v1 S' ∧ Pb v2 S') :=
    ee_tupA (vsP := fun vs S' => ∃ v1 v2, vs = [v1, v2] ∧ Pa v1 S' ∧ Pb v2 S') (fun H s Q q => (ea_2 ha hb hs1 hs2).2 H s Q fun vs S' H' g al => q vs S' H' g (by
      obtain ⟨v, w, rfl, p1, p2⟩ := al.two
      exact ⟨v, w, rfl, p1, p2⟩)) (fun vs _ ⟨_, _, e, _⟩ => by subst e; show 2 ≤ 16777216; decide) (fun vs S' t st ht ⟨v1, v2, e, p1, p2⟩ => by subst e; exact ⟨t, v1, v2, rfl, upd_same, Mn.up (Same.new ht) p1, Mn.up (Same.new ht) p2⟩)
  exact hs_cons (ps_asg peb pgb hss hw h3) (ht H s _ fun v S' H' g ⟨l, v1, v2, e, hl, p1, p2⟩ => by
    subst e
    exact hg_of (pg_tup hc (pgs_cons (pg_name hN hi hx hfx) (pgs_cons (pg_name hN hj hy hfy) pgs_nil h2) h1) hn hst) ⟨l, _, rfl, .inl (.inl (g.sub _ _ hl)), rfl, _, _, rfl, _, _, rfl, rfl, q v1 v2 S' H' p1 p2 g⟩)
/-- what stood ahead of l -/
theorem Same.cut {S0 S1 : Hp} {l : Addr} (s : Same S0 S1) (h : S0 l = none) : Same S0 (del S1 l) := fun z o e => by
  have ne : z ≠ l := fun q => by subst q; rw [h] at e; cases e
  rw [del_ne ne]; exact s z o e
end
end Y
namespace Y
open PySem PySem.Spec PyProof.Rows L2 Z
theorem ee_revS {X : Cx} {σ : L2.St} {S : Hp} {e : Expr} {k : Nat} {p1 p2 p3 pos : Pos} {z : Str} (he : EE X σ S e (Dt X.K (.str z))) (hz : z.cps.size ≤ 3) (ht : ∀ x t r, letTemporaryGo e (.str x t) r = pure () := by intro _ _ _; with_unfolding_all rfl)
    (hs : ∀ x t q, subscripted (.Slice none none (some (.UnaryOp .USub (.Constant (.int 1) k p1) p2)) p3) false (.str x t) (.ref q) = operate [.ref q, .str x t] (getItem (.str x t) (.ref q)) := by intro _ _ _; with_unfolding_all rfl) : EE X σ S (.Subscript e (.Slice none none (some (.UnaryOp .USub (.Constant (.int 1) k p1) p2)) p3) pos) (Dt X.K (.str (revS z))) := fun H s Q q =>
  he_of (pe_revS peb ht hs) (he H s _ fun v S1 H1 g pv => by cases pv; exact ⟨z, rfl, hz, q _ S1 H1 g (.str _)⟩)
end Y

namespace K07
open PySem PySem.Spec PyProof.Rows L2
/-! ## the head's facts: K with the statics -/
def asE (g : Addr → Option Obj) (n : Nat) : List Addr := He.asD g n ++ [cStatics]
def obsE (fa : List He.Fa) (fn : List He.DefD) (ex : PySem.W.Frag → Bool) (K : PySem.W.Frag) : He.AlD × Bool := (He.obsD fa fn K, ex K)
def obsEG (n : Nat) (fa : List He.Fa) (fn : List He.DefD) (ex : PySem.W.Frag → Bool) (g : Addr → Option Obj) : He.AlD × Bool := obsE fa fn ex (He.frG g (asE g n))
structure SaysE (fa : List He.Fa) (fn : List He.DefD) (ex : PySem.W.Frag → Bool) (K : PySem.W.Frag) : Prop where
  d : He.SaysD fa fn K
  more : ex K = true
def hookE (n : Nat) (fa : List He.Fa) (fn : List He.DefD) (ex : PySem.W.Frag → Bool) : PySem.W.Hook where
  α := He.AlD × Bool
  obs := fun s => obsEG n fa fn ex s.heap.get?
  val := fun _ => (He.valD fn, true)
  says := fun _ h => ∃ K : PySem.W.Frag, K.In h ∧ SaysE fa fn ex K
  of := fun _ _ e => ⟨_, He.frG_in, ⟨congrArg (fun z : He.AlD × Bool => z.1) e, congrArg (fun z : He.AlD × Bool => z.2) e⟩⟩
  keeps := fun _ _ _ ⟨K, hK, c⟩ k => ⟨K, PySem.W.Frag.In.keeps hK k, c⟩
theorem obsEG_eq {n : Nat} {fa : List He.Fa} {fn : List He.DefD} {ex : PySem.W.Frag → Bool} {g : Addr → Option Obj} {s : Shared} (h : ∀ a, g a = s.heap.get? a) : obsEG n fa fn ex g = (hookE n fa fn ex).obs s := by
  have e : g = s.heap.get? := funext h
  rw [e] <;> rfl
def top (i : Nat) : Stmt := PySem.Challenge.pw_dealtpowers_k07_schemas_told.main.body.getD i (.Pass ⟨0, 0, 0, 0⟩)
abbrev sInvalidColumns____init__ : Stmt := inClass (top 3) 0
def dInvalidColumns____init__ : He.DefD := ⟨("InvalidColumns", some "__init__"), "__init__", "InvalidColumns.__init__", defArgs sInvalidColumns____init__, defBody sInvalidColumns____init__, defScope sInvalidColumns____init__, [], []⟩
abbrev sInvalidFact____init__ : Stmt := inClass (top 4) 0
def dInvalidFact____init__ : He.DefD := ⟨("InvalidFact", some "__init__"), "__init__", "InvalidFact.__init__", defArgs sInvalidFact____init__, defBody sInvalidFact____init__, defScope sInvalidFact____init__, [], []⟩
abbrev sTooMany____init__ : Stmt := inClass (top 5) 0
def dTooMany____init__ : He.DefD := ⟨("TooMany", some "__init__"), "__init__", "TooMany.__init__", defArgs sTooMany____init__, defBody sTooMany____init__, defScope sTooMany____init__, [], []⟩
abbrev sis_number : Stmt := top 7
def dis_number : He.DefD := ⟨("is_number", none), "is_number", "is_number", defArgs sis_number, defBody sis_number, defScope sis_number, [], []⟩
abbrev spower_of : Stmt := top 8
def dpower_of : He.DefD := ⟨("power_of", none), "power_of", "power_of", defArgs spower_of, defBody spower_of, defScope spower_of, [], []⟩
abbrev scheck_columns : Stmt := top 11
def dcheck_columns : He.DefD := ⟨("check_columns", none), "check_columns", "check_columns", defArgs scheck_columns, defBody scheck_columns, defScope scheck_columns, [], []⟩
abbrev sis_exponent : Stmt := top 12
def dis_exponent : He.DefD := ⟨("is_exponent", none), "is_exponent", "is_exponent", defArgs sis_exponent, defBody sis_exponent, defScope sis_exponent, [], []⟩
abbrev sis_direction : Stmt := top 14
def dis_direction : He.DefD := ⟨("is_direction", none), "is_direction", "is_direction", defArgs sis_direction, defBody sis_direction, defScope sis_direction, [], []⟩
abbrev sdot : Stmt := top 15
def ddot : He.DefD := ⟨("dot", none), "dot", "dot", defArgs sdot, defBody sdot, defScope sdot, [], []⟩
abbrev smonomial : Stmt := top 16
def dmonomial : He.DefD := ⟨("monomial", none), "monomial", "monomial", defArgs smonomial, defBody smonomial, defScope smonomial, [], []⟩
abbrev sSchema____init__ : Stmt := inClass (top 17) 1
def dSchema____init__ : He.DefD := ⟨("Schema", some "__init__"), "__init__", "Schema.__init__", defArgs sSchema____init__, defBody sSchema____init__, defScope sSchema____init__, [.adr (He.dflAt ("Schema", some "__init__") 0)], []⟩
abbrev sSchema__facts : Stmt := inClass (top 17) 2
def dSchema__facts : He.DefD := ⟨("Schema", some "facts"), "facts", "Schema.facts", defArgs sSchema__facts, defBody sSchema__facts, defScope sSchema__facts, [], []⟩
abbrev sSchema__steps : Stmt := inClass (top 17) 3
def dSchema__steps : He.DefD := ⟨("Schema", some "steps"), "steps", "Schema.steps", defArgs sSchema__steps, defBody sSchema__steps, defScope sSchema__steps, [], []⟩
abbrev sSchema____contains__ : Stmt := inClass (top 17) 4
def dSchema____contains__ : He.DefD := ⟨("Schema", some "__contains__"), "__contains__", "Schema.__contains__", defArgs sSchema____contains__, defBody sSchema____contains__, defScope sSchema____contains__, [], []⟩
abbrev sSchema__is_exponent : Stmt := inClass (top 17) 5
def dSchema__is_exponent : He.DefD := ⟨("Schema", some "is_exponent"), "is_exponent", "Schema.is_exponent", defArgs sSchema__is_exponent, defBody sSchema__is_exponent, defScope sSchema__is_exponent, [], []⟩
abbrev sSchema__fits : Stmt := inClass (top 17) 6
def dSchema__fits : He.DefD := ⟨("Schema", some "fits"), "fits", "Schema.fits", defArgs sSchema__fits, defBody sSchema__fits, defScope sSchema__fits, [], []⟩
abbrev sSchema__rays : Stmt := inClass (top 17) 7
def dSchema__rays : He.DefD := ⟨("Schema", some "rays"), "rays", "Schema.rays", defArgs sSchema__rays, defBody sSchema__rays, defScope sSchema__rays, [], []⟩
abbrev sSchema__check_exponents : Stmt := inClass (top 17) 8
def dSchema__check_exponents : He.DefD := ⟨("Schema", some "check_exponents"), "check_exponents", "Schema.check_exponents", defArgs sSchema__check_exponents, defBody sSchema__check_exponents, defScope sSchema__check_exponents, [], []⟩
abbrev sSchema__follows : Stmt := inClass (top 17) 9
def dSchema__follows : He.DefD := ⟨("Schema", some "follows"), "follows", "Schema.follows", defArgs sSchema__follows, defBody sSchema__follows, defScope sSchema__follows, [], []⟩
abbrev sSchema__reason : Stmt := inClass (top 17) 10
def dSchema__reason : He.DefD := ⟨("Schema", some "reason"), "reason", "Schema.reason", defArgs sSchema__reason, defBody sSchema__reason, defScope sSchema__reason, [], []⟩
abbrev sSchema__equal_sums : Stmt := inClass (top 17) 11
def dSchema__equal_sums : He.DefD := ⟨("Schema", some "equal_sums"), "equal_sums", "Schema.equal_sums", defArgs sSchema__equal_sums, defBody sSchema__equal_sums, defScope sSchema__equal_sums, [], []⟩
abbrev sSchema__with_facts : Stmt := inClass (top 17) 12
def dSchema__with_facts : He.DefD := ⟨("Schema", some "with_facts"), "with_facts", "Schema.with_facts", defArgs sSchema__with_facts, defBody sSchema__with_facts, defScope sSchema__with_facts, [], []⟩
abbrev sSchema__fact_text : Stmt := inClass (top 17) 13
def dSchema__fact_text : He.DefD := ⟨("Schema", some "fact_text"), "fact_text", "Schema.fact_text", defArgs sSchema__fact_text, defBody sSchema__fact_text, defScope sSchema__fact_text, [], []⟩
abbrev sSchema__read_fact : Stmt := inClass (top 17) 14
def dSchema__read_fact : He.DefD := ⟨("Schema", some "read_fact"), "read_fact", "Schema.read_fact", defArgs sSchema__read_fact, defBody sSchema__read_fact, defScope sSchema__read_fact, [], []⟩
abbrev sSchema____eq__ : Stmt := inClass (top 17) 15
def dSchema____eq__ : He.DefD := ⟨("Schema", some "__eq__"), "__eq__", "Schema.__eq__", defArgs sSchema____eq__, defBody sSchema____eq__, defScope sSchema____eq__, [], []⟩
abbrev sSchema____repr__ : Stmt := inClass (top 17) 16
def dSchema____repr__ : He.DefD := ⟨("Schema", some "__repr__"), "__repr__", "Schema.__repr__", defArgs sSchema____repr__, defBody sSchema____repr__, defScope sSchema____repr__, [], []⟩
abbrev sL_open : Stmt := top 19
def dL_open : He.DefD := ⟨("_law_open", none), "_law_open", "_law_open", defArgs sL_open, defBody sL_open, defScope sL_open, [], []⟩
abbrev sL_take : Stmt := top 20
def dL_take : He.DefD := ⟨("_law_take", none), "_law_take", "_law_take", defArgs sL_take, defBody sL_take, defScope sL_take, [], []⟩
abbrev sL_one : Stmt := top 21
def dL_one : He.DefD := ⟨("_law_one", none), "_law_one", "_law_one", defArgs sL_one, defBody sL_one, defScope sL_one, [], []⟩
abbrev sL_kind : Stmt := top 22
def dL_kind : He.DefD := ⟨("_law_kind", none), "_law_kind", "_law_kind", defArgs sL_kind, defBody sL_kind, defScope sL_kind, [], []⟩
abbrev sL_same : Stmt := top 23
def dL_same : He.DefD := ⟨("_law_same", none), "_law_same", "_law_same", defArgs sL_same, defBody sL_same, defScope sL_same, [], []⟩
abbrev sL_odd : Stmt := top 24
def dL_odd : He.DefD := ⟨("_law_odd", none), "_law_odd", "_law_odd", defArgs sL_odd, defBody sL_odd, defScope sL_odd, [], []⟩
abbrev sL_letters : Stmt := top 25
def dL_letters : He.DefD := ⟨("_law_letters", none), "_law_letters", "_law_letters", defArgs sL_letters, defBody sL_letters, defScope sL_letters, [], []⟩
abbrev sL_exp : Stmt := top 26
def dL_exp : He.DefD := ⟨("_law_exp", none), "_law_exp", "_law_exp", defArgs sL_exp, defBody sL_exp, defScope sL_exp, [], []⟩
abbrev sL_some_facts : Stmt := top 27
def dL_some_facts : He.DefD := ⟨("_law_some_facts", none), "_law_some_facts", "_law_some_facts", defArgs sL_some_facts, defBody sL_some_facts, defScope sL_some_facts, [], []⟩
abbrev sL_mono : Stmt := top 28
def dL_mono : He.DefD := ⟨("_law_mono", none), "_law_mono", "_law_mono", defArgs sL_mono, defBody sL_mono, defScope sL_mono, [], []⟩
abbrev sL_fit_row : Stmt := top 29
def dL_fit_row : He.DefD := ⟨("_law_fit_row", none), "_law_fit_row", "_law_fit_row", defArgs sL_fit_row, defBody sL_fit_row, defScope sL_fit_row, [], []⟩
abbrev sL_dot : Stmt := top 30
def dL_dot : He.DefD := ⟨("_law_dot", none), "_law_dot", "_law_dot", defArgs sL_dot, defBody sL_dot, defScope sL_dot, [], []⟩
abbrev sL_pow : Stmt := top 31
def dL_pow : He.DefD := ⟨("_law_pow", none), "_law_pow", "_law_pow", defArgs sL_pow, defBody sL_pow, defScope sL_pow, [], []⟩
abbrev slaw : Stmt := top 32
def dlaw : He.DefD := ⟨("law", none), "law", "law", defArgs slaw, defBody slaw, defScope slaw, [], []⟩
def fn : List He.DefD := [dInvalidColumns____init__, dInvalidFact____init__, dTooMany____init__, dis_number, dpower_of, dcheck_columns, dis_exponent, dis_direction, ddot, dmonomial, dSchema____init__, dSchema__facts, dSchema__steps, dSchema____contains__, dSchema__is_exponent, dSchema__fits, dSchema__rays, dSchema__check_exponents, dSchema__follows, dSchema__reason, dSchema__equal_sums, dSchema__with_facts, dSchema__fact_text, dSchema__read_fact, dSchema____eq__, dSchema____repr__, dL_open, dL_take, dL_one, dL_kind, dL_same, dL_odd, dL_letters, dL_exp, dL_some_facts, dL_mono, dL_fit_row, dL_dot, dL_pow, dlaw]
def fa : List He.Fa := [.glo "is_number", .glo "power_of", .glo "check_columns", .glo "is_exponent", .glo "is_exponent_schemas", .glo "is_direction", .glo "dot", .glo "monomial", .glo "Schema", .glo "_law_open", .glo "_law_take", .glo "_law_one", .glo "_law_kind", .glo "_law_same", .glo "_law_odd", .glo "_law_letters", .glo "_law_exp", .glo "_law_some_facts", .glo "_law_mono", .glo "_law_fit_row", .glo "_law_dot", .glo "_law_pow", .glo "law", .free "isinstance", .free "bool", .free "int", .free "str", .free "list", .free "tuple", .free "len", .free "all", .free "sum", .free "zip", .free "range", .free "set", .free "enumerate", .free "repr", .int "MOST_EXPONENT" 6, .cls "Schema", .mkr "Schema", .noat "Schema" "columns", .noat "Schema" "width", .noat "Schema" "_facts", .meth "Schema" "facts", .meth "Schema" "steps", .meth "Schema" "__contains__", .meth "Schema" "is_exponent", .meth "Schema" "fits", .meth "Schema" "with_facts", .meth "Schema" "__eq__", .meth "Schema" "__repr__"]
def nm0 : List PySem.Str := ["_wall", "__name__", "DealError", "InvalidColumns", "InvalidFact", "TooMany", "is_number", "power_of", "MOST_EXPONENT", "check_columns", "is_exponent", "is_exponent_schemas", "is_direction", "dot", "monomial", "Schema", "_law_open", "_law_take", "_law_one", "_law_kind", "_law_same", "_law_odd", "_law_letters", "_law_exp", "_law_some_facts", "_law_mono", "_law_fit_row", "_law_dot", "_law_pow"]
def nms : List PySem.Str := nm0
def ex : PySem.W.Frag → Bool := fun K => decide (He.ga K "is_exponent_schemas" = He.ga K "is_exponent") && (He.eqO (PySem.W.findIn K (.ref (He.ga K "Schema")) "__ne__") (some (some (.builtin "object.__ne__"))) && (decide (PySem.W.mroIn K (He.ga K "Schema") (.type "object") = some true) && (He.eqO (PySem.W.findIn K (.ref (He.ga K "Schema")) "__class__") (some (some (.builtin "object.__class__"))) && (decide (PySem.W.kitOne K (.type "str") (.ref (He.ga K "Schema")) = some false) && (He.eqO (PySem.W.specialIn K (.builtin "object.__class__") "__get__") (some (some (.builtin "getset_descriptor.__get__"))) && (decide (PySem.W.takesIn K (.builtin "object.__class__") = some true) && (decide (PySem.W.subIn K (.type "str") (.ref (He.ga K "Schema")) = some false) && (PySem.W.readsIn K (He.ga K "Schema") (.type "type") && (He.eqO (PySem.W.specialIn K (.ref (He.ga K "Schema")) "__getattribute__") (some (some (.builtin "type.__getattribute__"))) && ((match PySem.W.findCls K (.ref (He.ga K "Schema")) (.type "type") "MOST" with
  | some (.val (.int 4 _)) => true
  | _ => false) && (match K.lookup (He.dflAt ("Schema", some "__init__") 0 K) with
  | some ⟨.type "tuple", _, .seq its _, _⟩ => its.isEmpty
  | _ => false)))))))))))
abbrev R : PySem.W.OpenRow := PySem.W.OpenLaw.row PySem.Challenge.rw_dealtpowers_k07_schemas_told
abbrev hk : PySem.W.Hook := hookE 5 fa fn ex
def ob (s : PySem.W.SharedT) : He.AlD × Bool := obsEG 5 fa fn ex (HandSHeadRun.getT s)
theorem ob_eq (s : PySem.W.SharedT) : ob s = hk.obs s.abs := obsEG_eq (HandSHeadRun.getT_eq s)
theorem run (w : World) : HandSHeadRun.RunEq R (PySem.W.view R.prog [32]) hk ob 20000 nms w := by
  intro os
  kernel_rfl
end K07

namespace K07
open PySem PySem.Spec PyProof.Rows L2 Z Y
abbrev FnT (K : PySem.W.Frag) (x : Str) (st : Stmt) (f : Addr) (fd : FuncData) : Prop := FunD K x x (defArgs st) (defBody st) (defScope st) [] [] f fd
/-! ## data in short -/
def tI (l : List Int) : PyData := .tuple (l.map .int)
def lI (l : List Int) : PyData := .list (l.map .int)
def tP (a b : List Int) : PyData := .tuple [tI a, tI b]
def isNum (d : PyData) (l : Int) : Bool := match d with
  | .int i => decide (l ≤ i)
  | _ => false
def leNum (d : PyData) (m : Int) : Bool := match d with
  | .int i => decide (i ≤ m)
  | _ => false
def isExp (d : PyData) (w : Int) : Bool := match d with
  | .tuple ds => decide ((ds.length : Int) = w) && ds.all fun x => isNum x 0 && leNum x 6
  | _ => false
def isDir (d : PyData) (w : Int) : Bool := match d with
  | .tuple ds => decide ((ds.length : Int) = w) && ds.all fun x => isNum x 0
  | _ => false
def dotI (a b : List Int) : Int := ((a.zip b).map fun p => p.1 * p.2).sum
def monoI : List Int → List Int → Int
  | e :: es, n :: ns => n ^ e.toNat * monoI es ns
  | _, _ => 1
theorem map_all {α : Type} (f : α → Bool) (l : List α) : (l.map f).all (fun b => b) = l.all f := by
  induction l with
  | nil => rfl
  | cons a l ih => simp [List.map_cons, List.all_cons, ih]
theorem tI_zip (a b : List Int) : (a.map PyData.int).zip (b.map PyData.int) = (a.zip b).map fun p => (PyData.int p.1, PyData.int p.2) := by
  rw [List.zip_map]; rfl
def mulD (q : PyData × PyData) : Int := match q with
  | (.int x, .int y) => x * y
  | _ => 0
theorem zip_int (a b : List Int) : zipD (a.map PyData.int) (b.map PyData.int) = ((a.zip b).map fun p => (PyData.int p.1, PyData.int p.2)).map tupP := by
  rw [zipD_eq, tI_zip]
theorem zip_mul (a b : List Int) : (((a.zip b).map fun p => (PyData.int p.1, PyData.int p.2)).map mulD).sum = dotI a b := by
  rw [List.map_map]; rfl
/-- the facts as data; what a row must keep -/
def ruleD (p : List Int × List Int) : PyData := tP p.1 p.2
def keepsI (ps : List (List Int × List Int)) (r : List Int) : Bool := ps.all fun p => decide (monoI p.1 r ≤ monoI p.2 r)
/-- n to the power e, of a bounded size -/
def PowOk (n e : Int) : Prop := 0 ≤ e ∧ (max 1 n.natAbs) ^ e.toNat < 2 ^ 2000000
theorem natAbs_pow' (n : Int) : ∀ e : Nat, (n ^ e).natAbs = n.natAbs ^ e
  | 0 => by simp
  | e + 1 => by rw [Int.pow_succ, Nat.pow_succ, Int.natAbs_mul, natAbs_pow' n e]
theorem pow_bd {n : Int} {e a : Nat} (h : (max 1 n.natAbs) ^ e < 2 ^ 2000000) (ha : a ≤ e) : (n ^ a).natAbs < 2 ^ 2000000 := by
  rw [natAbs_pow']
  refine Nat.lt_of_le_of_lt ?_ h
  refine Nat.le_trans (Nat.pow_le_pow_left (Nat.le_max_right 1 _) a) (Nat.pow_le_pow_right (by omega) ha)
theorem pow_mulx {n : Int} {e a b : Nat} (h : (max 1 n.natAbs) ^ e < 2 ^ 2000000) (ha : a ≤ e) (hb : b ≤ e) : CMulX (n ^ a) (n ^ b) := mulx_ok (pow_bd h ha) (pow_bd h hb) (by decide)
theorem monoI_snoc : ∀ (es ns : List Int) (e n : Int), es.length = ns.length → monoI (es ++ [e]) (ns ++ [n]) = monoI es ns * n ^ e.toNat
  | [], [], e, n, _ => by show n ^ e.toNat * 1 = 1 * n ^ e.toNat; rw [Int.mul_one, Int.one_mul]
  | [], _ :: _, _, _, h => by simp at h
  | _ :: _, [], _, _, h => by simp at h
  | a :: es, b :: ns, e, n, h => by
    show b ^ a.toNat * monoI (es ++ [e]) (ns ++ [n]) = b ^ a.toNat * monoI es ns * n ^ e.toNat
    rw [monoI_snoc es ns e n (by simpa using h), Int.mul_assoc]
/-- the monomials are of a bounded size -/
def MonoOk (es ns : List Int) : Prop := es.length = ns.length ∧ es.length ≤ 60 ∧ ∀ p ∈ es.zip ns, PowOk p.2 p.1
theorem powOk_bd {n e : Int} (h : PowOk n e) : (n ^ e.toNat).natAbs < 2 ^ 2000000 := pow_bd h.2 (Nat.le_refl _)
theorem monoI_bd : ∀ {es ns : List Int}, es.length = ns.length → (∀ p ∈ es.zip ns, PowOk p.2 p.1) → (monoI es ns).natAbs < 2 ^ (2000000 * es.length + 1)
  | [], [], _, _ => by show 1 < 2 ^ (0 + 1); decide
  | [], _ :: _, h, _ => by simp at h
  | _ :: _, [], h, _ => by simp at h
  | a :: es, b :: ns, h, hp => by
    show (b ^ a.toNat * monoI es ns).natAbs < 2 ^ (2000000 * (es.length + 1) + 1)
    have h1 := powOk_bd (hp (a, b) (by simp))
    have h2 := monoI_bd (es := es) (ns := ns) (by simpa using h) fun p hq => hp p (by simp [hq])
    have e : 2000000 * (es.length + 1) + 1 = 2000000 + (2000000 * es.length + 1) := by omega
    rw [Int.natAbs_mul, e, Nat.pow_add]
    exact Nat.mul_lt_mul'' h1 h2
theorem zip_take' : ∀ (es ns : List Int) (i : Nat), (es.take i).zip (ns.take i) = (es.zip ns).take i
  | _, _, 0 => by simp
  | [], _, i + 1 => by simp
  | _ :: _, [], i + 1 => by simp
  | a :: es, b :: ns, i + 1 => by simp [zip_take' es ns i]
theorem monoOk_take {es ns : List Int} (h : MonoOk es ns) (i : Nat) : (es.take i).length = (ns.take i).length ∧ ∀ p ∈ (es.take i).zip (ns.take i), PowOk p.2 p.1 := by
  refine ⟨by rw [List.length_take, List.length_take, h.1], fun p hp => h.2.2 p ?_⟩
  rw [zip_take'] at hp
  exact List.mem_of_mem_take hp
theorem mono_mulx {es ns : List Int} (h : MonoOk es ns) {i : Nat} {e n : Int} (hi : i < 60) (hn : PowOk n e) : CMulX (monoI (es.take i) (ns.take i)) (n ^ e.toNat) := by
  have h2 := monoI_bd (monoOk_take h i).1 (monoOk_take h i).2
  have hl : (es.take i).length ≤ i := by rw [List.length_take]; omega
  exact mulx_ok (a := 2000000 * 60 + 1) (Nat.lt_of_lt_of_le h2 (Nat.pow_le_pow_right (by decide) (by omega))) (powOk_bd hn) (by decide)
def kindN : PyData → Nat
  | .none => 0
  | .bool _ => 1
  | .int _ => 2
  | .str _ => 3
  | .list _ => 4
  | .tuple _ => 5
  | .dict _ => 6
def marksL (d : PyData) : List Bool := [decide (kindN d = 0), isD d "bool", isD d "int", isD d "str"] ++ [isD d "list", isD d "tuple", true]
theorem marks_at (d : PyData) : (marksL d)[kindN d]? = some true := by cases d <;> rfl
theorem marks_no (d : PyData) : ∀ m, m < kindN d → (marksL d)[m]? = some false := by
  cases d with
  | none => exact fun m h => absurd h (Nat.not_lt_zero _)
  | bool b => exact fun
    | 0, _ => rfl
    | m + 1, h => absurd (show m + 1 < 1 from h) (by omega)
  | int b => exact fun
    | 0, _ => rfl
    | 1, _ => rfl
    | m + 2, h => absurd (show m + 2 < 2 from h) (by omega)
  | str b => exact fun
    | 0, _ => rfl
    | 1, _ => rfl
    | 2, _ => rfl
    | m + 3, h => absurd (show m + 3 < 3 from h) (by omega)
  | list b => exact fun
    | 0, _ => rfl
    | 1, _ => rfl
    | 2, _ => rfl
    | 3, _ => rfl
    | m + 4, h => absurd (show m + 4 < 4 from h) (by omega)
  | tuple b => exact fun
    | 0, _ => rfl
    | 1, _ => rfl
    | 2, _ => rfl
    | 3, _ => rfl
    | 4, _ => rfl
    | m + 5, h => absurd (show m + 5 < 5 from h) (by omega)
  | dict b => exact fun
    | 0, _ => rfl
    | 1, _ => rfl
    | 2, _ => rfl
    | 3, _ => rfl
    | 4, _ => rfl
    | 5, _ => rfl
    | m + 6, h => absurd (show m + 6 < 6 from h) (by omega)
theorem dt_non {K : PySem.W.Frag} {d : PyData} {v : V} {S : Hp} (h : Dt K d v S) : decide (v = .non) = decide (kindN d = 0) := by
  cases h <;> rfl
/-- data without dicts, at most n deep -/
def Bd : Nat → PyData → Prop
  | _, .none => True
  | _, .bool _ => True
  | _, .int _ => True
  | _, .str _ => True
  | 0, .list _ => False
  | 0, .tuple _ => False
  | n + 1, .list xs => ∀ x ∈ xs, Bd n x
  | n + 1, .tuple xs => ∀ x ∈ xs, Bd n x
  | _, .dict _ => False
theorem zip_self (xs : List PyData) : xs.zip xs = xs.map fun x => (x, x) := by
  induction xs with
  | nil => rfl
  | cons a l ih => simp [ih]
def alpha : Str := "abcdefghijklmnopqrstuvwxyz"
theorem alpha_at : ∀ n : Nat, n < 26 → atI alpha.cps.toList (n : Int) = some (97 + n) := by
  have h : ((List.range 26).all fun n => decide (atI alpha.cps.toList ((n : Nat) : Int) = some (97 + n))) = true := by decide +kernel
  intro n hn
  exact of_decide_eq_true (List.all_eq_true.mp h n (List.mem_range.mpr hn))
theorem alpha_len : alpha.length ≤ sizeLine := by decide +kernel
/-- the columns that a law draws -/
def colCode (a s : Int) (i : Nat) : Nat := 97 + ((a + s * (i : Int)) % 26).toNat
def cols (a s : Int) (n : Nat) : Str := ⟨((List.range n).map (colCode a s)).toArray⟩
def stepOk (s : Int) : Prop := s ∈ ([1, 25, 3, 7, 11] : List Int)
theorem col_range (a s : Int) (i : Nat) : 97 ≤ colCode a s i ∧ colCode a s i ≤ 122 := by
  unfold colCode
  have h1 := Int.emod_nonneg (a + s * (i : Int)) (show (26 : Int) ≠ 0 by decide)
  have h2 := Int.emod_lt_of_pos (a + s * (i : Int)) (show (0 : Int) < 26 by decide)
  omega
theorem col_inj {a s : Int} (hs : stepOk s) {i j : Nat} (hi : i < 3) (hj : j < 3) (h : colCode a s i = colCode a s j) : i = j := by
  unfold colCode at h
  have hs : s = 1 ∨ s = 25 ∨ s = 3 ∨ s = 7 ∨ s = 11 := by simpa [stepOk] using hs
  have hi : i = 0 ∨ i = 1 ∨ i = 2 := by omega
  have hj : j = 0 ∨ j = 1 ∨ j = 2 := by omega
  rcases hs with rfl | rfl | rfl | rfl | rfl <;> rcases hi with rfl | rfl | rfl <;> rcases hj with rfl | rfl | rfl <;> omega
theorem cols_nodup {a s : Int} (hs : stepOk s) {n : Nat} (hn : n ≤ 3) : ((List.range n).map (colCode a s)).Nodup := by
  rw [List.nodup_iff_pairwise_ne, List.pairwise_map]
  refine List.Pairwise.imp_of_mem (fun {x y} hx hy hxy h => hxy ?_) List.nodup_range
  rw [List.mem_range] at hx hy
  exact col_inj hs (by omega) (by omega) h
theorem cols_size (a s : Int) (n : Nat) : (cols a s n).cps.size = n := by unfold cols; simp
theorem joinL_nil : ∀ ps : List (List Nat), TL.joinL [] ps = ps.flatten
  | [] => rfl
  | [p] => by simp [TL.joinL]
  | p :: q :: r => by
    show p ++ ([] ++ TL.joinL [] (q :: r)) = _
    rw [joinL_nil (q :: r), List.nil_append]
    simp
theorem join_signs (cs : List Nat) : Txt.join Str.empty (cs.map fun c => (⟨#[c]⟩ : Str)) = ⟨cs.toArray⟩ := by
  refine TL.ext_tl ?_
  rw [TL.join_eq, TL.tl_join]
  show TL.joinL [] _ = cs
  rw [joinL_nil, List.map_map]
  induction cs with
  | nil => rfl
  | cons c cs ih => rw [List.map_cons, List.flatten_cons, ih]; rfl
section
variable {P : Program} {w : World} {K : PySem.W.Frag} {mg : Str → Option Value} {base : Heap} {f : Addr} {fd : FuncData}
def FisNumber : List PyData → PyData → Prop := fun ds r => ∃ d l, ds = [d, .int l] ∧ r = .bool (isNum d l)
theorem sc_is_number : FnScope ["value", "least"] ["value", "least"] (defScope sis_number) := ⟨rfl, rfl, rfl, by decide +kernel, rfl, by decide +kernel, by decide +kernel⟩
theorem ok_is_number (F : FnT K "is_number" sis_number f fd) (g1 : mg "isinstance" = none) (g2 : mg "int" = none) (g3 : mg "bool" = none) : FnOk P w K mg base CX0 1 f fd ["value", "least"] (spD K FisNumber) := by
  refine fn_hs F sc_is_number (fun vs H Q E h => ?_) (fun cdv A outer sh H vs Q E hr h => ?_)
  · obtain ⟨S, ds, d, _, hd, ⟨_, _, rfl, _⟩, _⟩ := h
    exact hd.1
  · obtain ⟨S, ds, r, s, hd, ⟨d, l, rfl, rfl⟩, q⟩ := h
    obtain ⟨v1, v2, rfl, p1, p2⟩ := hd.two
    refine hs_ret ((ee_and (ee_isi (isD_ok d (T := "int") (by simp)) g1 g2 boot_int (ee_var 0 rfl p1)) fun h1 =>
      ee_and (ee_not (ee_isi (isD_ok d (T := "bool") (by simp)) g1 g3 boot_bool (ee_var 0 rfl p1))) fun h2 => ee_one (P := Dt K (.bool (isNum d l))) ?_).isd ?_) s q
    · cases d <;> first | (exact ee_ge (ee_var 0 rfl p1) (ee_var 1 rfl p2)) | (exfalso; simp [isDi, isDb] at h1 h2; done)
    · cases d <;> rfl
def Fpower_of : List PyData → PyData → Prop := fun ds r => ∃ n e, ds = [.int n, .int e] ∧ r = .int (n ^ e.toNat) ∧ PowOk n e
theorem sc_power_of : FnScope ["number", "exponent", "found", "square", "rest"] ["number", "exponent"] (defScope spower_of) := ⟨rfl, rfl, rfl, by decide +kernel, rfl, by decide +kernel, by decide +kernel⟩
theorem ok_power_of (F : FnT K "power_of" spower_of f fd) : FnOk P w K mg base CX0 1 f fd ["number", "exponent"] (spD K Fpower_of) := by
  refine fn_hs F sc_power_of (fun vs H Q E h => ?_) (fun cdv A outer sh H vs Q E hr h => ?_)
  · obtain ⟨S, ds, d, _, hd, ⟨_, _, rfl, _⟩, _⟩ := h
    exact hd.1
  · obtain ⟨S, ds, r, s, hd, ⟨n, e, rfl, rfl, h0, hb⟩, q⟩ := h
    obtain ⟨v1, v2, rfl, p1, p2⟩ := hd.two
    obtain ⟨en, rfl⟩ : ∃ en : Nat, e = (en : Int) := ⟨e.toNat, by omega⟩
    rw [Int.toNat_natCast] at hb q
    refine hs_par3 (i := 2) (j := 3) (l := 4) rfl sc_power_of.nd ee_int (ee_var 0 rfl p1) (ee_var 1 rfl p2) s rfl fun w1 w2 w3 S1 H1 g1 q1 q2 q3 => ?_
    refine hs_while (fun m σ S2 => ∃ a b : Nat, a + b * m = en ∧ ∃ x y z, σ = [some v1, some v2, some x, some y, some z] ∧ Dt K (.int (n ^ a)) x S2 ∧ Dt K (.int (n ^ b)) y S2 ∧ Dt K (.int (m : Nat)) z S2) en PassesOwn.never g1.sub ⟨0, 1, by omega, w1, w2, w3, rfl, by rw [Int.pow_zero]; exact q1, by rw [Int.pow_succ, Int.pow_zero, Int.one_mul]; exact q2, q3⟩ ?_
    rintro m σ S2 H2 g2 ⟨a, b, hab, x, y, z, rfl, px, py, pz⟩
    refine ⟨decide ((0 : Int) < (m : Nat)), et_gt (ee_var 4 rfl pz) ee_int, fun hm S3 H3 g3 => ?_, fun hm S3 H3 g3 => ?_⟩
    · have hm : 0 < m := by simpa using hm
      have hbe : b ≤ b * m := Nat.le_mul_of_pos_right b hm
      have px := px.up g3.st
      have py := py.up g3.st
      have pz := pz.up g3.st
      have hmod : m = 2 * (m / 2) + m % 2 := (Nat.div_add_mod m 2).symm
      refine hs_ifJ (fun σ' S4 => ∃ (a' : Nat) (x' : V), a' + (b + b) * (m / 2) = en ∧ Dt K (.int (n ^ a')) x' S4 ∧ σ' = [some v1, some v2, some x', some y, some z]) (et_tru (d := .int ((m % 2 : Nat) : Int)) (ee_op op_odd (ee_var 4 rfl pz) ee_int fun x y S4 H4 _ s4 pa pb Q qq => by
        cases pa; cases pb; exact ⟨m, rfl, rfl, qq _ S4 H4 (Gr.refl s4) (.int _)⟩) (fun _ h => nomatch h)) g3.sub (fun ho S4 H4 g4 => ?_) (fun ho S4 H4 g4 => ?_) ?_
      · have ho : m % 2 = 1 := by simp [truD] at ho; omega
        refine hs_set (i := 2) (ee_mul (pow_mulx hb (by omega) (by omega)) (ee_var 2 rfl (px.up g4.st)) (ee_var 3 rfl (py.up g4.st))) g4.sub sc_power_of.nd fun x' S5 H5 g5 px' => hs_nil ?_
        rw [← Int.pow_add] at px'
        refine ⟨S5, g5, a + b, x', ?_, px', rfl⟩
        rw [← hab]
        conv => rhs; rw [hmod, ho]
        rw [Nat.mul_add, Nat.add_mul, ← Nat.mul_assoc, Nat.mul_comm b 2, Nat.mul_assoc]
        omega
      · have ho : m % 2 = 0 := by simp [truD] at ho; omega
        refine hs_nil ⟨S4, Gr.refl g4.sub, a, x, ?_, px.up g4.st, rfl⟩
        rw [← hab]
        conv => rhs; rw [hmod, ho]
        rw [Nat.add_zero, Nat.add_mul, ← Nat.mul_assoc, Nat.mul_comm b 2, Nat.mul_assoc]
        omega
      rintro σ' S4 H4 g4 ⟨a', x', ha', px', rfl⟩
      refine hs_set (i := 4) (P := Dt K (.int ((m / 2 : Nat) : Int))) (ee_op op_halfN (ee_var 4 rfl (pz.up g4.st)) ee_int fun x y S5 H5 _ s5 pa pb Q qq => by
        cases pa; cases pb; exact ⟨m, rfl, rfl, qq _ S5 H5 (Gr.refl s5) (.int _)⟩) g4.sub sc_power_of.nd fun z' S5 H5 g5 pz' => ?_
      by_cases hm2 : 0 < m / 2
      · have hb2 : b + b ≤ (b + b) * (m / 2) := Nat.le_mul_of_pos_right _ hm2
        refine hs_ifT ((et_gt (ee_var 4 rfl pz') ee_int).is (decide_eq_true (by omega))) g5.sub fun S6 H6 g6 => ?_
        refine hs_set (i := 3) (ee_mul (pow_mulx hb (by omega) (by omega)) (ee_var 3 rfl (((py.up g4.st).up g5.st).up g6.st)) (ee_var 3 rfl (((py.up g4.st).up g5.st).up g6.st))) g6.sub sc_power_of.nd fun y' S7 H7 g7 py' => hs_nil (hs_nil ?_)
        rw [← Int.pow_add] at py'
        exact ⟨S7, g4.trans (g5.trans (g6.trans g7)), m / 2, by omega, a', b + b, ha', x', y', z', rfl, ((px'.up g5.st).up g6.st).up g7.st, py', (pz'.up g6.st).up g7.st⟩
      · have hm0 : m / 2 = 0 := by omega
        refine hs_ifN ((et_gt (ee_var 4 rfl pz') ee_int).is (decide_eq_false (by omega))) g5.sub fun S6 H6 g6 => hs_nil ?_
        rw [hm0, Nat.mul_zero] at ha'
        exact ⟨S6, g4.trans (g5.trans g6), m / 2, by omega, a', b, by rw [hm0]; omega, x', y, z', rfl, (px'.up g5.st).up g6.st, ((py.up g4.st).up g5.st).up g6.st, pz'.up g6.st⟩
    · have hm : m = 0 := by simpa using hm
      subst hm
      refine hs_ret (ee_var 2 rfl (px.up g3.st)) g3.sub fun v S4 H4 g4 pv => q v S4 H4 (g1.trans (g2.trans (g3.trans g4))) ?_
      have e1 : a = en := by omega
      rw [e1] at pv
      exact pv
def FisExp : List PyData → PyData → Prop := fun ds r => ∃ d w, ds = [d, .int w] ∧ r = .bool (isExp d w)
theorem sc_is_exponent : FnScope ["value", "width", "item"] ["value", "width"] (defScope sis_exponent) := ⟨rfl, rfl, rfl, by decide +kernel, rfl, by decide +kernel, by decide +kernel⟩
theorem ok_is_exponent (F : FnT K "is_exponent" sis_exponent f fd) (D1 : KD P w K mg base "is_number" 1 (spD K FisNumber)) (g1 : mg "isinstance" = none) (g2 : mg "tuple" = none) (g3 : mg "len" = none) (g4 : mg "all" = none) (g5 : ∃ t, mg "MOST_EXPONENT" = some (.int 6 t)) : FnOk P w K mg base CX0 2 f fd ["value", "width"] (spD K FisExp) := by
  refine fn_hs F sc_is_exponent (fun vs H Q E h => ?_) (fun cdv A outer sh H vs Q E hr h => ?_)
  · obtain ⟨S, ds, d, _, hd, ⟨_, _, rfl, _⟩, _⟩ := h
    exact hd.1
  · obtain ⟨S, ds, r, s, hd, ⟨d, w', rfl, rfl⟩, q⟩ := h
    obtain ⟨v1, v2, rfl, p1, p2⟩ := hd.two
    obtain ⟨t, g5⟩ := g5
    by_cases hd' : ∃ es, d = .tuple es
    · obtain ⟨es, rfl⟩ := hd'
      refine hs_if (et_w (ew_or (et_not (et_val (ee_isi (isD_ok (.tuple es) (T := "tuple") (by simp)) g1 g2 boot_tuple (ee_var 0 rfl p1)))) fun _ => ew_or1 (et_neI (ee_len g3 rfl (ee_var 0 rfl p1)) (ee_var 1 rfl p2)))) s (fun h1 S1 H1 g => ?_) (fun h1 S1 H1 g => hs_nil ?_)
      · have hl : ¬ ((es.length : Int) = w') := by simpa [isDt] using h1
        refine hs_ret ee_bl g.sub fun v S2 H2 g2 pv => q v S2 H2 (g.trans g2) ?_
        have e : isExp (.tuple es) w' = false := by unfold isExp; simp [hl]
        rw [e]; exact pv
      · have hl : (es.length : Int) = w' := by simpa [isDt] using h1
        have hz : es.length ≤ sizeLine := by obtain ⟨l, xs, _, _, hx, z⟩ := p1.tup_inv; rw [← hx.1]; exact z
        refine hs_ret ((ee_all (bs := es.map fun x => isNum x 0 && leNum x 6) rfl g4 (ee_lc (i := 2) (enc := .bool) (f := fun x => isNum x 0 && leNum x 6) rfl sc_is_exponent.nd (blkOk_by (N := ["value", "width", "item"]) (sc := defScope sis_exponent) (by decide +kernel)) (ei_tup (ee_var 0 rfl (p1.up g.st))) hz ?_)).isd ?_) g.sub fun v S2 H2 g2 pv => q v S2 H2 (g.trans g2) pv
        · intro x hx v S2 s2 pv sh' H0 C cl fp
          refine ee_and (k1 := isNum x 0) (k2 := leNum x 6) (ee_callD D1 hr ⟨x, 0, rfl, rfl⟩ (ea_2 (ee_var 2 rfl pv) ee_int)) fun h2 => ee_one (P := Dt K (.bool (leNum x 6))) ?_
          cases x with
          | int i => exact ee_le (ee_var 2 rfl pv) (ee_globI g5)
          | _ => exfalso; simp [isNum] at h2; done
        · rw [map_all]
          unfold isExp
          simp [hl]
    · refine hs_ifT ((et_w (ew_or (k2 := true) (et_not (et_val (ee_isi (isD_ok d (T := "tuple") (by simp)) g1 g2 boot_tuple (ee_var 0 rfl p1)))) fun h1 => ?_)).is ?_) s fun S1 H1 g => hs_ret ee_bl g.sub fun v S2 H2 g2 pv => q v S2 H2 (g.trans g2) ?_
      · exfalso; cases d <;> first | (simp [isDt] at h1; done) | exact hd' ⟨_, rfl⟩
      · simp
      · have e : isExp d w' = false := by cases d <;> first | rfl | exact absurd ⟨_, rfl⟩ hd'
        rw [e]; exact pv
def FisDir : List PyData → PyData → Prop := fun ds r => ∃ d w, ds = [d, .int w] ∧ r = .bool (isDir d w)
theorem sc_is_direction : FnScope ["value", "width", "item"] ["value", "width"] (defScope sis_direction) := ⟨rfl, rfl, rfl, by decide +kernel, rfl, by decide +kernel, by decide +kernel⟩
theorem ok_is_direction (F : FnT K "is_direction" sis_direction f fd) (D1 : KD P w K mg base "is_number" 1 (spD K FisNumber)) (g1 : mg "isinstance" = none) (g2 : mg "tuple" = none) (g3 : mg "len" = none) (g4 : mg "all" = none) : FnOk P w K mg base CX0 2 f fd ["value", "width"] (spD K FisDir) := by
  refine fn_hs F sc_is_direction (fun vs H Q E h => ?_) (fun cdv A outer sh H vs Q E hr h => ?_)
  · obtain ⟨S, ds, d, _, hd, ⟨_, _, rfl, _⟩, _⟩ := h
    exact hd.1
  · obtain ⟨S, ds, r, s, hd, ⟨d, w', rfl, rfl⟩, q⟩ := h
    obtain ⟨v1, v2, rfl, p1, p2⟩ := hd.two
    by_cases hd' : ∃ es, d = .tuple es
    · obtain ⟨es, rfl⟩ := hd'
      have hz : es.length ≤ sizeLine := by obtain ⟨l, xs, _, _, hx, z⟩ := p1.tup_inv; rw [← hx.1]; exact z
      refine hs_ret ((ee_and (ee_isi (isD_ok (.tuple es) (T := "tuple") (by simp)) g1 g2 boot_tuple (ee_var 0 rfl p1)) fun _ => ee_and (ee_eqI (ee_len g3 rfl (ee_var 0 rfl p1)) (ee_var 1 rfl p2)) fun _ => ee_one
        (ee_all (bs := es.map fun x => isNum x 0) rfl g4 (ee_lc (i := 2) (enc := .bool) (f := fun x => isNum x 0) rfl sc_is_direction.nd (blkOk_by (N := ["value", "width", "item"]) (sc := defScope sis_direction) (by decide +kernel)) (ei_tup (ee_var 0 rfl p1)) hz ?_))).isd ?_) s q
      · intro x hx v S2 s2 pv sh' H0 C cl fp
        exact ee_callD D1 hr ⟨x, 0, rfl, rfl⟩ (ea_2 (ee_var 2 rfl pv) ee_int)
      · rw [map_all]
        unfold isDir
        simp [isDt]
    · have e0 : isD d "tuple" = false := by cases d <;> first | rfl | exact absurd ⟨_, rfl⟩ hd'
      refine hs_ret ((ee_and (k2 := false) (ee_isi (isD_ok d (T := "tuple") (by simp)) g1 g2 boot_tuple (ee_var 0 rfl p1)) fun h1 => ?_).isd ?_) s q
      · rw [e0] at h1; cases h1
      · have e : isDir d w' = false := by cases d <;> first | rfl | exact absurd ⟨_, rfl⟩ hd'
        rw [e]; simp
def Fdot : List PyData → PyData → Prop := fun ds r => ∃ a b, ds = [tI a, tI b] ∧ r = .int (dotI a b) ∧ a.length ≤ 100 ∧ ∀ p ∈ a.zip b, CMulX p.1 p.2
theorem sc_dot : FnScope ["one", "other", "left", "right"] ["one", "other"] (defScope sdot) := ⟨rfl, rfl, rfl, by decide +kernel, rfl, by decide +kernel, by decide +kernel⟩
theorem ok_dot (F : FnT K "dot" sdot f fd) (g1 : mg "sum" = none) (g2 : mg "zip" = none) : FnOk P w K mg base CX0 1 f fd ["one", "other"] (spD K Fdot) := by
  refine fn_hs F sc_dot (fun vs H Q E h => ?_) (fun cdv A outer sh H vs Q E hr h => ?_)
  · obtain ⟨S, ds, d, _, hd, ⟨_, _, rfl, _⟩, _⟩ := h
    exact hd.1
  · obtain ⟨S, ds, r, s, hd, ⟨a, b, rfl, rfl, hl, hm⟩, q⟩ := h
    obtain ⟨v1, v2, rfl, p1, p2⟩ := hd.two
    refine hs_ret ((ee_sum rfl g1 (ee_lc2 (i := 2) (j := 3) (enc := .int) (f := mulD) (ps := (a.zip b).map fun p => (PyData.int p.1, PyData.int p.2)) rfl sc_dot.nd (blkOk_by (N := ["one", "other", "left", "right"]) (sc := defScope sdot) (by decide +kernel))
      (by rw [← zip_int]; exact ei_zipT g2 (ee_var 0 rfl p1) (ee_var 1 rfl p2)) ?_ ?_)).isd ?_) s q
    · rw [List.length_map, List.length_zip]
      show _ ≤ 16777216
      omega
    · intro p hp v u S2 s2 pv pu sh' H0 C cl fp
      obtain ⟨⟨x, y⟩, hxy, rfl⟩ := List.mem_map.mp hp
      exact ee_mul (hm (x, y) hxy) (ee_var 2 rfl pv) (ee_var 3 rfl pu)
    · rw [zip_mul]
def Fmonomial : List PyData → PyData → Prop := fun ds r => ∃ es ns, ds = [tI es, tI ns] ∧ r = .int (monoI es ns) ∧ MonoOk es ns
theorem sc_monomial : FnScope ["exponent", "row", "found", "power", "number"] ["exponent", "row"] (defScope smonomial) := ⟨rfl, rfl, rfl, by decide +kernel, rfl, by decide +kernel, by decide +kernel⟩
theorem ok_monomial (F : FnT K "monomial" smonomial f fd) (D1 : KD P w K mg base "power_of" 1 (spD K Fpower_of)) (g1 : mg "zip" = none) : FnOk P w K mg base CX0 2 f fd ["exponent", "row"] (spD K Fmonomial) := by
  refine fn_hs F sc_monomial (fun vs H Q E h => ?_) (fun cdv A outer sh H vs Q E hr h => ?_)
  · obtain ⟨S, ds, d, _, hd, ⟨_, _, rfl, _⟩, _⟩ := h
    exact hd.1
  · obtain ⟨S, ds, r, s, hd, ⟨es, ns, rfl, rfl, hm⟩, q⟩ := h
    obtain ⟨v1, v2, rfl, p1, p2⟩ := hd.two
    refine hs_set (i := 2) ee_int s sc_monomial.nd fun w1 S1 H1 g2 q1 => ?_
    have hlen : ∀ K, (Ds K (zipD (es.map PyData.int) (ns.map PyData.int))).length = es.length := fun K => by rw [ds_len, zipD_eq, List.length_map, List.length_zip, List.length_map, List.length_map, ← hm.1]; omega
    refine hs_for (fun i σ S2 => ∃ x a b, σ = [some v1, some v2, some x, a, b] ∧ Dt K (.int (monoI (es.take i) (ns.take i))) x S2) PassesOwn.never rfl (ei_zipT g1 (ee_var 0 rfl (p1.up g2.st)) (ee_var 1 rfl (p2.up g2.st))) g2.sub (fun S2 H2 g3 => ⟨w1, none, none, rfl, q1.up g3.st⟩) ?_ ?_
    · rintro i Pi σ1 S2 H2 x S3 H3 hP g3 ⟨y, a, b, rfl, py⟩ g4 px
      have hi : i < es.length := by
        have := (List.getElem?_eq_some_iff.mp hP).1
        rw [hlen] at this; exact this
      have hi2 : i < ns.length := by rw [← hm.1]; exact hi
      have hz : (zipD (es.map PyData.int) (ns.map PyData.int))[i]? = some (.tuple [.int es[i], .int ns[i]]) := zipD_get (by rw [List.getElem?_map, List.getElem?_eq_getElem hi]; rfl) (by rw [List.getElem?_map, List.getElem?_eq_getElem hi2]; rfl)
      rw [ds_get hz] at hP
      obtain rfl := Option.some.inj hP
      obtain ⟨u1, u2, k1, k2, hg⟩ := eg_pair (σ := [some v1, some v2, some y, a, b]) (i := 3) (j := 4) (x := "power") (y := "number") (kk := _) (px := _) (py := _) (pos := _) (X := (cxOf CX0 P w K mg base ["exponent", "row", "found", "power", "number"] "monomial" (defScope smonomial) f cdv A outer sh H E).nox) rfl sc_monomial.nd rfl rfl (Or.inl rfl) (Or.inl rfl) px
      refine hg H3 g4.sub _ ?_
      have hpo : PowOk ns[i] es[i] := hm.2.2 (es[i], ns[i]) (List.mem_of_getElem? (i := i) (by rw [List.getElem?_zip_eq_some]; exact ⟨List.getElem?_eq_getElem hi, List.getElem?_eq_getElem hi2⟩))
      refine hs_set (i := 2) (ee_mul (mono_mulx hm (by have := hm.2.1; omega) hpo) (ee_var 2 rfl (py.up g4.st)) (ee_callD D1 hr ⟨ns[i], es[i], rfl, rfl, hpo⟩ (ea_2 (ee_var 4 rfl k2) (ee_var 3 rfl k1)))) g4.sub sc_monomial.nd fun z S4 H4 g5 pz => hs_nil ?_
      refine ⟨S4, g5, z, some u1, some u2, rfl, ?_⟩
      rw [take_snoc (List.getElem?_eq_getElem hi), take_snoc (List.getElem?_eq_getElem hi2), monoI_snoc _ _ _ _ (monoOk_take hm i).1]
      exact pz
    · rintro σ1 S2 H2 g3 ⟨y, a, b, rfl, py⟩
      rw [hlen, List.take_length, hm.1, List.take_length] at py
      exact hs_ret (ee_var 2 rfl py) g3.sub fun v S3 H3 g4 pv => q v S3 H3 (g2.trans (g3.trans g4)) pv
def spOpen0 (K : PySem.W.Frag) : Sp := fun vs H Q _ => ∃ (a : Addr) (ns : List Int), vs = [.ref a] ∧ SqL K H a (ns.map V.int) ∧ ns.length ≤ 63 ∧ ∀ (b c : Addr) (ms : List Int) (k : Int) (H' : Hp), H b = none → H c = none → b ≠ c → Same H H' → ms.length ≤ 63 → 0 ≤ k → k < 100000 →
  H' c = some (.lst (ms.map V.int)) → H' b = some (.lst [.ref c, .int 0, .int 0, .int k, .int 0]) → Q (.ref b) H'
def spOpen (K : PySem.W.Frag) : Sp := fun vs H Q _ => ∃ (a : Addr) (ns : List Int), vs = [.ref a] ∧ SqL K H a (ns.map V.int) ∧ ns.length ≤ 63 ∧ ∀ v H', Same H H' → BX v H' → Q v H'
theorem scL_open : FnScope ["_law_script"] ["_law_script"] (defScope sL_open) := ⟨rfl, rfl, rfl, by decide +kernel, rfl, by decide +kernel, by decide +kernel⟩
theorem cut_ints (ns : List Int) (k : Nat) : cutV (ns.map V.int) none (some (k : Int)) = (ns.take k).map V.int := by
  unfold cutV
  rw [HT.sIx_none, HT.sIx_nat, List.drop_zero, List.map_take, Nat.sub_zero]
  by_cases h : k ≤ (ns.map V.int).length
  · rw [Nat.min_eq_left h]
  · rw [Nat.min_eq_right (by omega), List.take_of_length_le (Nat.le_refl _), List.take_of_length_le (by omega)]
theorem ok_L_open0 (F : FnT K "_law_open" sL_open f fd) (g1 : mg "list" = none) (g2 : mg "len" = none) : FnOk P w K mg base CX0 1 f fd ["_law_script"] (spOpen0 K) := by
  refine fn_hs F scL_open (fun vs H Q E h => ?_) (fun cdv A outer sh H vs Q E hr h => ?_)
  · obtain ⟨a, ns, rfl, _⟩ := h
    rfl
  · obtain ⟨a, ns, rfl, hS, hl, q⟩ := h
    refine hs_cons (ps_ret (pe_lst (pa_cons (pe_callTy call_list_of (by rfl) g1 boot_list (pa_cons (pe_slice sl_list (pv 0) po_none (po_some pe_int)) pa_nil)) (pa_cons pe_int (pa_cons pe_int (pa_cons (pe_op op_add pe_int (pe_op op_mul pe_int (pe_callB call_len_seq (by rfl) g2 PySem.boot_len (pa_cons (pv 0) pa_nil)))) (pa_cons pe_int pa_nil))))))) ?_
    refine ⟨_, rfl, _, rfl, a, _, rfl, hS, fun p hp => ⟨p, _, rfl, .inl (sql_of upd_same), fun c hc => ?_⟩⟩
    have s1 : Same H (upd H p (.lst (cutV (ns.map V.int) none (some 63)))) := Same.new hp
    have hcp : p ≠ c := ne_of_none upd_same hc
    have hc0 : H c = none := s1.free hc
    have s2 := s1.trans (Same.new (o := .lst (cutV (ns.map V.int) none (some 63))) hc)
    refine ⟨_, rfl, a, _, rfl, .inl (sql_up s2 hS), 7, ((ns.map V.int).length : Int), rfl, rfl, .inl (by decide), 12016, 7 * ((ns.map V.int).length : Int), rfl, rfl, (by show 5 ≤ 16777216; decide), fun b hb => ?_⟩
    have hbc : b ≠ c := (ne_of_none upd_same hb).symm
    rw [List.length_map]
    refine q b c (ns.take 63) _ _ (s2.free hb) hc0 hbc (s2.trans (Same.new hb)) (by rw [List.length_take]; omega) (by omega) (by omega) ?_ upd_same
    rw [upd_ne hbc.symm, upd_same]
    exact congrArg (fun l => some (HO.lst l)) (cut_ints ns 63)
theorem ok_L_open (F : FnT K "_law_open" sL_open f fd) (g1 : mg "list" = none) (g2 : mg "len" = none) : FnOk P w K mg base CX0 1 f fd ["_law_script"] (spOpen K) := by
  refine FnOk.close (ok_L_open0 F g1 g2) (fun vs H Q E h => by obtain ⟨a, ns, rfl, _⟩ := h; rfl) fun vs H Q E h => ?_
  obtain ⟨a, ns, rfl, hS, hl, q⟩ := h
  refine ⟨a, ns, rfl, hS, hl, fun b c ms k H' nb nc nbc sm hm k0 k1 hc hb => ⟨b, _, boxPhi b c, nb, hb, sm, fun h' o => box_of ⟨0, 0, k, 0, rfl, by omega, by omega, k0, by omega, by omega⟩ o, box_stab, ?_⟩⟩
  refine q _ _ (fun x o e => by rw [upd_ne (ne_of_none e nb)]; exact sm _ _ e) ⟨b, c, ms, rfl, nbc, upd_same, by rw [upd_ne nbc.symm]; exact hc, hm⟩
def spTake0 : Sp := fun vs H Q _ => ∃ (b c : Addr) (ns : List Int) (sz : Int) (xs : List V), vs = [.ref b, .int sz] ∧ b ≠ c ∧ H b = some (.lst xs) ∧ BoxV c xs ∧ H c = some (.lst (ns.map V.int)) ∧ ns.length ≤ 63 ∧ 0 < sz ∧ sz < 1073741824 ∧
  ∀ (n : Int) (H' : Hp) (ys : List V), 0 ≤ n → n < sz → (∀ a o, H a = some o → a ≠ b → H' a = some o) → H' b = some (.lst ys) → BoxV c ys → Q (.int n) H'
def Ftake : List PyData → (PyData → Prop) → Prop := fun ds G => ∃ sz, ds = [.int sz] ∧ 0 < sz ∧ sz < 1073741824 ∧ G = fun d => ∃ n, d = .int n ∧ 0 ≤ n ∧ n < sz
theorem scL_take : FnScope ["_law_box", "_law_size", "_law_cell", "_law_digit", "_law_seed"] ["_law_box", "_law_size"] (defScope sL_take) := ⟨rfl, rfl, rfl, by decide +kernel, rfl, by decide +kernel, by decide +kernel⟩
theorem bound_mod {x y : Int} (h : 0 < y) : 0 ≤ x % y ∧ x % y < y := ⟨Int.emod_nonneg x (by omega), Int.emod_lt_of_pos x h⟩
/-- the box at b in H', all else as in H -/
structure TkI (H : Hp) (b c : Addr) (H' : Hp) (i g m k : Int) : Prop where
  hb : H' b = some (.lst [.ref c, .int i, .int g, .int m, .int k])
  ot : ∀ a o, H a = some o → a ≠ b → H' a = some o
  i0 : 0 ≤ i
  g0 : 0 ≤ g
  m0 : 0 ≤ m
  m1 : m < 2147483648
  k0 : 0 ≤ k
theorem TkI.up {H : Hp} {b c : Addr} {H1 H2 : Hp} {i g m k : Int} (t : TkI H b c H1 i g m k) (s : Same H1 H2) : TkI H b c H2 i g m k := ⟨s _ _ t.hb, fun a o h n => s _ _ (t.ot a o h n), t.i0, t.g0, t.m0, t.m1, t.k0⟩
theorem TkI.put {H : Hp} {b c : Addr} {H1 : Hp} {i g m k i' g' m' k' : Int} (t : TkI H b c H1 i g m k) (xs : List V) (e : xs = [.ref c, .int i', .int g', .int m', .int k']) (a0 : 0 ≤ i') (a1 : 0 ≤ g') (a2 : 0 ≤ m') (a3 : m' < 2147483648) (a4 : 0 ≤ k') : TkI H b c (upd H1 b (.lst xs)) i' g' m' k' := by
  subst e
  exact ⟨upd_same, fun a o h n => by rw [upd_ne n]; exact t.ot a o h n, a0, a1, a2, a3, a4⟩
theorem small64' {z : Int} (h0 : 0 ≤ z) (h : z < 2147483648) : -(2 ^ 64) < z ∧ z < 2 ^ 64 := by
  have e : (2 : Int) ^ 64 = 18446744073709551616 := by decide
  omega
theorem ok_L_take0 (F : FnT K "_law_take" sL_take f fd) (g1 : mg "len" = none) (g2 : mg "int" = none) : FnOk P w K mg base CX0 1 f fd ["_law_box", "_law_size"] spTake0 := by
  refine fn_hs F scL_take (fun vs H Q E h => ?_) (fun cdv A outer sh H vs Q E hr h => ?_)
  · obtain ⟨b, c, ns, sz, xs, rfl, _⟩ := h
    rfl
  · obtain ⟨b, c, ns, sz, xs, rfl, hbc, hb, hx, hc, hl, z0, z1, q⟩ := h
    obtain ⟨i, g, m, k, rfl, i0, g0, m0, m1, k0⟩ := hx.ex
    have T0 : TkI H b c H i g m k := ⟨hb, fun a o h _ => h, i0, g0, m0, m1, k0⟩
    have eb : ∀ {σ : L2.St} {S : Hp} {pos : Pos}, σ[0]? = some (some (V.ref b)) → EE (cxOf CX0 P w K mg base ["_law_box", "_law_size", "_law_cell", "_law_digit", "_law_seed"] "_law_take" (defScope sL_take) f cdv A outer sh H E).nox σ S (.Name "_law_box" pos) (fun w _ => w = .ref b) := fun h => ee_var 0 h rfl
    have hnz : ns.length ≤ sizeLine := Nat.le_trans hl (by decide)
    have ec : ∀ {S : Hp} {i g m k : Int} {σ : L2.St} {p1 p2 p3 : Pos} {n : Nat}, TkI H b c S i g m k → σ[0]? = some (some (V.ref b)) → EE (cxOf CX0 P w K mg base ["_law_box", "_law_size", "_law_cell", "_law_digit", "_law_seed"] "_law_take" (defScope sL_take) f cdv A outer sh H E).nox σ S (.Subscript (.Name "_law_box" p1) (.Constant (.int 0) n p2) p3) (Dt K (lI ns)) := fun {S i g m k} _ _ _ _ _ T h =>
      ee_ixB T.hb (eb h) ee_int (v := .ref c) rfl fun S' s => Dt.lst_mk (s _ _ (T.ot _ _ hc hbc.symm)) (int_dts ns S') (by rw [List.length_map]; exact hnz)
    refine hs_ifR (S := H) (fun σ' H' => ∃ (v : Option V) (i g m k : Int), σ' = [some (.ref b), some (.int sz), v, none, none] ∧ TkI H b c H' i g m k)
      (et_w (ew_and (et_eqI (ee_ixB hb (eb rfl) ee_int (v := .int g) rfl fun _ _ => .int g) ee_int) fun _ => ew_and1 (et_lt (ee_ixB hb (eb rfl) ee_int (v := .int i) rfl fun _ _ => .int i) (ee_len g1 (n := ns.length) (by simp [lI, lenD]) (ec T0 rfl))))) (Same.refl H) (fun hk S1 H1 g1' => ?_) (fun hk S1 H1 g1' => hs_nil ⟨none, i, g, m, k, rfl, T0.up g1'.hh⟩) ?_
    · -- a cell is taken
      have hi : i < (ns.length : Int) := by
        have h2 := (Bool.and_eq_true_iff.mp hk).2
        exact of_decide_eq_true h2
      have T1 := T0.up g1'.hh
      have hget : atI (ns.map PyData.int) i = some (.int (ns[i.toNat]'(by omega))) := by
        unfold atI ixN
        rw [if_pos i0, List.length_map, if_pos hi]
        show (ns.map PyData.int)[i.toNat]? = _
        rw [List.getElem?_map, List.getElem?_eq_getElem (by omega)]
        rfl
      refine hs_set (S := H1) (i := 2) (ee_ixL hget (ec T1 rfl) (ee_ixB T1.hb (eb rfl) ee_int (v := .int i) rfl fun _ _ => .int i)) (Same.refl _) scL_take.nd fun v S2 H2 g2' pv => ?_
      cases pv
      have T2 := T1.up g2'.hh
      refine hs_setL (ee_add (ee_ixB T2.hb (eb rfl) ee_int (v := .int i) rfl fun _ _ => .int i) ee_int) (eb rfl) ee_int T2.hb (j := 1) rfl fun v H3 s3 pv => ?_
      cases pv
      have T3 := (T2.up s3).put ([.ref c, .int i, .int g, .int m, .int k].set 1 (.int (i + 1))) rfl (by omega) g0 m0 m1 k0
      refine hs_if (S := _) (et_ge (ee_var 2 rfl (Dt.int (K := K) _)) (ee_pow (by exact ⟨by decide, by decide, by decide⟩) ee_int ee_int)) (Same.refl _) (fun hk4 S4 H4 g4 => ?_) (fun hk4 S4 H4 g4 => ?_)
      · have T4 := T3.up g4.hh
        have hge := of_decide_eq_true hk4
        refine hs_setL (ee_var 2 rfl (Dt.int (K := K) _)) (eb rfl) ee_int T4.hb (j := 2) rfl fun v H5 s5 pv => hs_nil (hs_nil ?_)
        cases pv
        have e18 : (0 : Int) ≤ 10 ^ (18 : Int).toNat := by decide
        exact ⟨_, i + 1, _, m, k, rfl, (T4.up s5).put _ rfl (by omega) (by omega) m0 m1 k0⟩
      · have T4 := T3.up g4.hh
        have b1 := @bound_mod (ns[i.toNat]'(by omega)) 2147483497 (by decide)
        refine hs_setL (ee_mod (by decide) (ee_intOf g2 (ee_add (ee_add (ee_mulS (.inr (by decide)) (ee_ixB T4.hb (eb rfl) ee_int (v := .int m) rfl fun _ _ => .int m) ee_int) (ee_mulS (.inr (by decide)) (ee_mod (by decide) (ee_intOf g2 (ee_var 2 rfl (Dt.int (K := K) _))) ee_int) ee_int)) ee_int)) ee_int) (eb rfl) ee_int T4.hb (j := 3) rfl fun v H5 s5 pv => hs_nil (hs_nil ?_)
        cases pv
        have b2 := @bound_mod (m * 39119 + ns[i.toNat]'(by omega) % 2147483497 * 6143 + 53) 2147483563 (by decide)
        exact ⟨_, i + 1, g, _, k, rfl, (T4.up s5).put _ rfl (by omega) g0 b2.1 (by omega) k0⟩
    · rintro σ' H2 ⟨v, i, g, m, k, rfl, T2⟩
      have g0 := T2.g0
      have m0 := T2.m0
      refine hs_if (S := H2) (et_gt (ee_ixB T2.hb (eb rfl) ee_int (v := .int g) rfl fun _ _ => .int g) ee_int) (Same.refl _) (fun hk S3 H3 g3 => ?_) (fun hk S3 H3 g3 => hs_nil ?_)
      · have T3 := T2.up g3.hh
        refine hs_set (S := H3) (i := 3) (ee_mod z0 (ee_intOf g2 (ee_ixB T3.hb (eb rfl) ee_int (v := .int g) rfl fun _ _ => .int g)) (ee_var 1 rfl (Dt.int (K := K) sz))) (Same.refl _) scL_take.nd fun v S4 H4 g4 pv => ?_
        cases pv
        have T4 := T3.up g4.hh
        have b3 := @bound_mod g sz z0
        refine hs_setL (ee_fdiv (wide_div (b := 31) z0 (by omega) (by decide) (by decide)) (ee_ixB T4.hb (eb rfl) ee_int (v := .int g) rfl fun _ _ => .int g) (ee_var 1 rfl (Dt.int (K := K) sz))) (eb rfl) ee_int T4.hb (j := 2) rfl fun v H5 s5 pv => ?_
        cases pv
        have T5 := (T4.up s5).put ([.ref c, .int i, .int g, .int m, .int k].set 2 (.int (g / sz))) rfl T2.i0 (Int.ediv_nonneg g0 (by omega)) T2.m0 T2.m1 T2.k0
        refine hs_ret (S := _) (ee_var 3 rfl (Dt.int (K := K) _)) (Same.refl _) fun v S6 H6 g6 pv => ?_
        cases pv
        have T6 := T5.up g6.hh
        exact q _ H6 _ b3.1 b3.2 T6.ot T6.hb ⟨i, g / sz, m, k, rfl, T6.i0, T6.g0, T6.m0, T6.m1, T6.k0⟩
      · have T3 := T2.up g3.hh
        refine hs_setL (ee_add (ee_ixB T3.hb (eb rfl) ee_int (v := .int k) rfl fun _ _ => .int k) ee_int) (eb rfl) ee_int T3.hb (j := 4) rfl fun v H4 s4 pv => ?_
        cases pv
        have k0 := T3.k0
        have T4 := (T3.up s4).put ([.ref c, .int i, .int g, .int m, .int k].set 4 (.int (k + 1))) rfl T3.i0 T3.g0 T3.m0 T3.m1 (by omega)
        refine hs_set (S := _) (i := 4) (ee_ixB (P := Dt K (.int m)) T4.hb (eb rfl) ee_int (v := .int m) rfl fun _ _ => .int m) (Same.refl _) scL_take.nd fun v S5 H5 g5 pv => ?_
        cases pv
        have T5 := T4.up g5.hh
        refine hs_setL (ee_mod (by decide) (ee_intOf g2 (ee_add (ee_add (ee_add (ee_mulS (.inl (small64' m0 T2.m1)) (ee_var 4 rfl (Dt.int (K := K) m)) (ee_var 4 rfl (Dt.int (K := K) m))) (ee_mulS (.inr (by decide)) (ee_var 4 rfl (Dt.int (K := K) m)) ee_int)) (ee_mulS (.inr (by decide)) (ee_ixB T5.hb (eb rfl) ee_int (v := .int (k + 1)) rfl fun _ _ => .int (k + 1)) ee_int)) ee_int)) ee_int) (eb rfl) ee_int T5.hb (j := 3) rfl fun v H6 s6 pv => ?_
        cases pv
        have b2 := @bound_mod (m * m + m * 28411 + (k + 1) * 1500007 + 90001) 2147483587 (by decide)
        have T6 := (T5.up s6).put ([.ref c, .int i, .int g, .int m, .int (k + 1)].set 3 (.int ((m * m + m * 28411 + (k + 1) * 1500007 + 90001) % 2147483587))) rfl T5.i0 T5.g0 b2.1 (by omega) (by omega)
        refine hs_ret (S := _) (ee_mod z0 (ee_intOf g2 (ee_add (ee_fdiv (wide_div (b := 31) (by decide) (by decide) (by decide) (by decide)) (ee_ixB T6.hb (eb rfl) ee_int (P := Dt K (.int ((m * m + m * 28411 + (k + 1) * 1500007 + 90001) % 2147483587))) (v := .int ((m * m + m * 28411 + (k + 1) * 1500007 + 90001) % 2147483587)) rfl fun _ _ => .int _) ee_int) (ee_mulS (.inr (by decide)) (ee_mod (by decide) (ee_intOf g2 (ee_ixB T6.hb (eb rfl) ee_int (P := Dt K (.int ((m * m + m * 28411 + (k + 1) * 1500007 + 90001) % 2147483587))) (v := .int ((m * m + m * 28411 + (k + 1) * 1500007 + 90001) % 2147483587)) rfl fun _ _ => .int _)) ee_int) ee_int))) (ee_var 1 rfl (Dt.int (K := K) sz))) (Same.refl _) fun v S7 H7 g7 pv => ?_
        cases pv
        have T7 := T6.up g7.hh
        exact q _ H7 _ (bound_mod z0).1 (bound_mod z0).2 T7.ot T7.hb ⟨_, _, _, _, rfl, T7.i0, T7.g0, T7.m0, T7.m1, T7.k0⟩
theorem ok_L_take (F : FnT K "_law_take" sL_take f fd) (g1 : mg "len" = none) (g2 : mg "int" = none) : FnOk P w K mg base CX0 1 f fd ["_law_box", "_law_size"] (spB K Ftake) := by
  refine FnOk.box (ok_L_take0 F g1 g2) (fun vs H Q E h => ?_) fun vs H Q E h => ?_
  · obtain ⟨S, v, ws, ds, G, rfl, _, _, hd, ⟨sz, rfl, _⟩, _⟩ := h
    have := hd.1
    simp at this
    simp [this]
  · obtain ⟨S, v, ws, ds, G, rfl, s, ⟨b, c, ns, rfl, hbc, hb, hc, hl⟩, hd, ⟨sz, rfl, z0, z1, rfl⟩, q⟩ := h
    obtain ⟨u, rfl, pu⟩ := hd.one
    cases pu
    refine ⟨b, boxPhi b c, s _ _ hb, fun h p => ?_⟩
    obtain ⟨xs, hx, ox⟩ := of_box (P := P) (w := w) (H := H) p
    refine ⟨xs, ox, b, c, ns, sz, xs, rfl, hbc, upd_same, hx, by rw [upd_ne hbc.symm]; exact s _ _ hc, hl, z0, z1, fun n H' ys n0 n1 ot hy hys => ⟨ys, hy, fun h' o => box_of hys o, fun a o e ne => ot a o (by rw [upd_ne ne]; exact e) ne, ?_⟩⟩
    have sm : Same H (upd H' b (.ext (boxPhi b c))) := fun a o e => by
      by_cases ha : a = b
      · subst ha; rw [upd_same]; rw [s _ _ hb] at e; exact e
      · rw [upd_ne ha]; exact ot a o (by rw [upd_ne ha]; exact e) ha
    exact q (.int n) ⟨n, rfl, n0, n1⟩ _ S _ ⟨Same.refl S, s.trans sm, sm, fun _ _ _ => rfl⟩ (Dt.int n)
def Fone : List PyData → (PyData → Prop) → Prop := fun ds G => ∃ xs, ds = [.list xs] ∧ 0 < xs.length ∧ xs.length < 1073741824 ∧ G = fun d => d ∈ xs
theorem scL_one : FnScope ["_law_box", "_law_some"] ["_law_box", "_law_some"] (defScope sL_one) := ⟨rfl, rfl, rfl, by decide +kernel, rfl, by decide +kernel, by decide +kernel⟩
theorem ok_L_one (F : FnT K "_law_one" sL_one f fd) (D1 : KD P w K mg base "_law_take" 1 (spB K Ftake)) (g1 : mg "len" = none) : FnOk P w K mg base CX0 2 f fd ["_law_box", "_law_some"] (spB K Fone) := by
  refine fn_hs F scL_one (fun vs H Q E h => ?_) (fun cdv A outer sh H vs Q E hr h => ?_)
  · obtain ⟨S, v, ws, ds, G, rfl, _, _, hd, ⟨xs, rfl, _⟩, _⟩ := h
    have := hd.1
    simp at this
    simp [this]
  · obtain ⟨S, v, ws, ds, G, rfl, s, hb, hd, ⟨xs, rfl, z0, z1, rfl⟩, q⟩ := h
    obtain ⟨u, rfl, pu⟩ := hd.one
    refine hs_ret (ee_ixE (ee_var 1 rfl pu) ((ee_callBx D1 hr ⟨xs.length, rfl, by omega, by omega, rfl⟩ (ea_2 (ee_var 0 rfl hb) (ee_len g1 rfl (ee_var 1 rfl pu)))).exi fun d ⟨n, e, n0, n1⟩ => ⟨n, e, n0, n1⟩)) s ?_
    rintro v S' H' g ⟨d, hd, pd⟩
    exact q d hd v S' H' g pd
def oddL : List PyData := [.none, .bool true, .bool false, .str "", .str "Q7", .int (-1), .tuple [.int 1, .str "a"], .list [.int 1], .tuple [], .list [.str "a"], .tuple [.bool true]]
def Fodd : List PyData → (PyData → Prop) → Prop := fun ds G => ∃ xs, ds = [.list xs] ∧ xs.length ≤ 1000 ∧ G = fun d => d ∈ oddL ++ xs
theorem scL_odd : FnScope ["_law_box", "_law_more"] ["_law_box", "_law_more"] (defScope sL_odd) := ⟨rfl, rfl, rfl, by decide +kernel, rfl, by decide +kernel, by decide +kernel⟩
theorem ok_L_odd (F : FnT K "_law_odd" sL_odd f fd) (D1 : KD P w K mg base "_law_one" 2 (spB K Fone)) : FnOk P w K mg base CX0 3 f fd ["_law_box", "_law_more"] (spB K Fodd) := by
  refine fn_hs F scL_odd (fun vs H Q E h => ?_) (fun cdv A outer sh H vs Q E hr h => ?_)
  · obtain ⟨S, v, ws, ds, G, rfl, _, _, hd, ⟨xs, rfl, _⟩, _⟩ := h
    have := hd.1
    simp at this
    simp [this]
  · obtain ⟨S, v, ws, ds, G, rfl, s, hb, hd, ⟨xs, rfl, z1, rfl⟩, q⟩ := h
    obtain ⟨u, rfl, pu⟩ := hd.one
    have l11 : oddL.length = 11 := rfl
    refine hs_ret (ee_callBx D1 hr ⟨oddL ++ xs, rfl, by rw [List.length_append, l11]; omega, by rw [List.length_append, l11]; omega, rfl⟩ (ea_2 (ee_var 0 rfl hb) (ee_catL (by rw [l11]; show _ ≤ 16777216; omega)
      (ee_lst (ds := oddL) (ea_cons ee_non (ea_cons ee_bl (ea_cons ee_bl (ea_cons ee_str (ea_cons ee_str (ea_cons (ee_neg ee_int) (ea_cons (ee_tup (ds := [.int 1, .str "a"]) (ea_2 ee_int ee_str)) (ea_cons (ee_lst (ds := [.int 1]) (ea_1 ee_int)) (ea_cons (ee_tup (ds := []) ea_nil) (ea_cons (ee_lst (ds := [.str "a"]) (ea_1 ee_str)) (ea_cons (ee_tup (ds := [.bool true]) (ea_1 ee_bl)) ea_nil)))))))))))) (ee_var 1 rfl pu)))) s ?_
    rintro v S' H' g ⟨d, hd, pd⟩
    exact q d hd v S' H' g pd
def Fexp : List PyData → (PyData → Prop) → Prop := fun ds G => ∃ (n : Nat) (m : Int), ds = [.int n, .int m] ∧ n ≤ 1000 ∧ 0 ≤ m ∧ m < 1000000 ∧ G = fun d => ∃ l : List Int, d = tI l ∧ l.length = n ∧ ∀ x ∈ l, 0 ≤ x ∧ x ≤ m
theorem scL_exp : FnScope ["_law_box", "_law_many", "_law_most", "_law_at"] ["_law_box", "_law_many", "_law_most"] (defScope sL_exp) := ⟨rfl, rfl, rfl, by decide +kernel, rfl, by decide +kernel, by decide +kernel⟩
theorem paired_ints {ds rs : List PyData} {G : Int → Prop} (h : Paired (fun _ d => ∃ i, d = .int i ∧ G i) ds rs) : ∃ l : List Int, rs = l.map .int ∧ l.length = ds.length ∧ ∀ x ∈ l, G x := by
  induction h with
  | nil => exact ⟨[], rfl, rfl, fun _ h => nomatch h⟩
  | cons g _ ih =>
    obtain ⟨i, rfl, gi⟩ := g
    obtain ⟨l, rfl, h2, h3⟩ := ih
    exact ⟨i :: l, rfl, by simp [h2], fun x hx => by
      rcases List.mem_cons.mp hx with rfl | hx
      · exact gi
      · exact h3 x hx⟩
theorem ok_L_exp (F : FnT K "_law_exp" sL_exp f fd) (D1 : KD P w K mg base "_law_take" 1 (spB K Ftake)) (g1 : mg "tuple" = none) (g2 : mg "range" = none) : FnOk P w K mg base CX0 2 f fd ["_law_box", "_law_many", "_law_most"] (spB K Fexp) := by
  refine fn_hs F scL_exp (fun vs H Q E h => ?_) (fun cdv A outer sh H vs Q E hr h => ?_)
  · obtain ⟨S, v, ws, ds, G, rfl, _, _, hd, ⟨n, m, rfl, _⟩, _⟩ := h
    have := hd.1
    simp at this
    simp [this]
  · obtain ⟨S, v, ws, ds, G, rfl, s, hb, hd, ⟨n, m, rfl, hn, m0, m1, rfl⟩, q⟩ := h
    obtain ⟨v1, v2, rfl, p1, p2⟩ := hd.two
    refine hs_ret ((ee_tupleE g1 (ee_lcN (i := 3) rfl scL_exp.nd (blkOk_by (N := ["_law_box", "_law_many", "_law_most", "_law_at"]) (sc := defScope sL_exp) (by decide +kernel)) (ei_range g2 (by omega) (ee_var 1 rfl p1)) (by rw [upto_len]; show _ ≤ 16777216; omega)
      (F := fun _ d => ∃ i, d = .int i ∧ 0 ≤ i ∧ i ≤ m) fun x hx v S2 s2 pv sh' H0 C cl fp => ?_)).exi (G := fun d => ∃ l : List Int, d = tI l ∧ l.length = n ∧ ∀ x ∈ l, 0 ≤ x ∧ x ≤ m) fun d ⟨rs, e, hp⟩ => ?_) s ?_
    · exact (ee_callBx D1 hr ⟨m + 1, rfl, by omega, by omega, rfl⟩ (ea_2 (ee_var 0 rfl (Mn.up s2 hb)) (ee_add (ee_var 2 rfl (p2.up s2)) ee_int))).exi fun d ⟨i, e, i0, i1⟩ => ⟨i, e, i0, by omega⟩
    · obtain ⟨l, rfl, h2, h3⟩ := paired_ints hp
      exact ⟨l, e, by rw [h2, upto_len], h3⟩
    · rintro v S' H' g ⟨d, hd, pd⟩
      exact q d hd v S' H' g pd
def Fkind : List PyData → PyData → Prop := fun ds r => ∃ d, ds = [d] ∧ r = .int (kindN d : Nat)
theorem scL_kind : FnScope ["_law_thing", "_law_marks"] ["_law_thing"] (defScope sL_kind) := ⟨rfl, rfl, rfl, by decide +kernel, rfl, by decide +kernel, by decide +kernel⟩
theorem ok_L_kind (F : FnT K "_law_kind" sL_kind f fd) (g1 : mg "isinstance" = none) (g2 : mg "bool" = none) (g3 : mg "int" = none) (g4 : mg "str" = none) (g5 : mg "list" = none) (g6 : mg "tuple" = none) : FnOk P w K mg base CX0 1 f fd ["_law_thing"] (spD K Fkind) := by
  refine fn_hs F scL_kind (fun vs H Q E h => ?_) (fun cdv A outer sh H vs Q E hr h => ?_)
  · obtain ⟨S, ds, d, _, hd, ⟨_, rfl, _⟩, _⟩ := h
    exact hd.1
  · obtain ⟨S, ds, r, s, hd, ⟨d, rfl, rfl⟩, q⟩ := h
    obtain ⟨v, rfl, p⟩ := hd.one
    refine hs_set (i := 1) (ee_lst (ds := [.bool (decide (kindN d = 0)), .bool (isD d "bool"), .bool (isD d "int"), .bool (isD d "str")]) (ea_cons (by rw [← dt_non p]; exact ee_isN (ee_var 0 rfl rfl)) (ea_cons (ee_isi (isD_ok d (T := "bool") (by simp)) g1 g2 boot_bool (ee_var 0 rfl p)) (ea_cons (ee_isi (isD_ok d (T := "int") (by simp)) g1 g3 boot_int (ee_var 0 rfl p)) (ea_cons (ee_isi (isD_ok d (T := "str") (by simp)) g1 g4 boot_str (ee_var 0 rfl p)) ea_nil))))) s scL_kind.nd fun m1 S1 H1 gr1 pm1 => ?_
    have p1 := p.up gr1.st
    refine hs_set (i := 1) (ee_catL (by show _ ≤ 16777216; exact Nat.le_of_ble_eq_true rfl) (ee_var 1 rfl pm1) (ee_lst (ds := [.bool (isD d "list"), .bool (isD d "tuple"), .bool true]) (ea_cons (ee_isi (isD_ok d (T := "list") (by simp)) g1 g5 boot_list (ee_var 0 rfl p1)) (ea_cons (ee_isi (isD_ok d (T := "tuple") (by simp)) g1 g6 boot_tuple (ee_var 0 rfl p1)) (ea_cons ee_bl ea_nil))))) gr1.sub scL_kind.nd fun m2 S2 H2 gr2 pm2 => ?_
    exact hs_ret (ee_indexT (bs := marksL d) (marks_at d) (marks_no d) (ee_var 1 rfl pm2) ee_bl) gr2.sub fun v S3 H3 gr3 pv => q v S3 H3 (gr1.trans (gr2.trans gr3)) pv
def Fsame (n : Nat) : List PyData → PyData → Prop := fun ds r => ∃ d, ds = [d, d] ∧ Bd n d ∧ r = .bool true
theorem scL_same : FnScope ["_law_found", "_law_due", "_law_a", "_law_b"] ["_law_found", "_law_due"] (defScope sL_same) := ⟨rfl, rfl, rfl, by decide +kernel, rfl, by decide +kernel, by decide +kernel⟩
theorem okL_same_all (xs : List PyData) : ((xs.zip xs).map fun _ => true).all (fun b => b) = true := by
  rw [List.all_eq_true]
  intro b hb
  obtain ⟨_, _, rfl⟩ := List.mem_map.mp hb
  rfl
theorem ok_L_same (F : FnT K "_law_same" sL_same f fd) (hm : mg "_law_same" = some (.ref f)) (hb : Binds K fd ["_law_found", "_law_due"] []) (D1 : KD P w K mg base "_law_kind" 1 (spD K Fkind)) (g1 : mg "len" = none) (g2 : mg "all" = none) (g3 : mg "zip" = none) : ∀ n : Nat, FnOk P w K mg base CX0 (n + 2) f fd ["_law_found", "_law_due"] (spD K (Fsame n)) := by
  have step : ∀ n : Nat, (∀ m, n = m + 1 → FnOk P w K mg base CX0 (m + 2) f fd ["_law_found", "_law_due"] (spD K (Fsame m))) → FnOk P w K mg base CX0 (n + 2) f fd ["_law_found", "_law_due"] (spD K (Fsame n)) := fun n ih => by
    refine fn_hs F scL_same (fun vs H Q E h => ?_) (fun cdv A outer sh H vs Q E hr h => ?_)
    · obtain ⟨S, ds, d, _, hd, ⟨_, rfl, _⟩, _⟩ := h
      exact hd.1
    · obtain ⟨S, ds, r, s, hd, ⟨d, rfl, hbd, rfl⟩, q⟩ := h
      obtain ⟨v1, v2, rfl, p1, p2⟩ := hd.two
      refine hs_ifN ((et_neI (ee_callD D1 (hr.mono (by omega)) ⟨d, rfl, rfl⟩ (ea_1 (ee_var 0 rfl p1))) (ee_callD D1 (hr.mono (by omega)) ⟨d, rfl, rfl⟩ (ea_1 (ee_var 1 rfl p2)))).is (by simp)) s fun S1 H1 g4 => ?_
      have p1 := p1.up g4.st
      have p2 := p2.up g4.st
      refine hs_if (et_inT (ns := [4, 5]) (ee_callD D1 (hr.mono (by omega)) ⟨d, rfl, rfl⟩ (ea_1 (ee_var 1 rfl p2))) (ee_tup (ds := [.int 4, .int 5]) (ea_2 ee_int ee_int))) g4.sub (fun hk S2 H2 g5 => ?_) (fun hk S2 H2 g5 => hs_nil ?_)
      · have p1 := p1.up g5.st
        have p2 := p2.up g5.st
        obtain ⟨m, rfl⟩ : ∃ m, n = m + 1 := by
          cases n with
          | zero => exfalso; cases d <;> first | (simp [kindN] at hk; done) | exact hbd
          | succ m => exact ⟨m, rfl⟩
        have D2 : KD P w K mg base "_law_same" (m + 2) (spD K (Fsame m)) := ⟨f, fd, _, ih m rfl, hm, F.kp, hb⟩
        cases d with
        | list xs =>
          have hz : xs.length ≤ sizeLine := by obtain ⟨l, ys, _, _, hx, z⟩ := p1.lst_inv; rw [← hx.1]; exact z
          refine hs_ret ((ee_and (ee_eqI (ee_len g1 rfl (ee_var 0 rfl p1)) (ee_len g1 rfl (ee_var 1 rfl p2))) fun _ => ee_one (ee_all (bs := (xs.zip xs).map fun _ => true) rfl g2
            (ee_lc2 (i := 2) (j := 3) (enc := .bool) (f := fun _ => true) rfl scL_same.nd (blkOk_by (N := ["_law_found", "_law_due", "_law_a", "_law_b"]) (sc := defScope sL_same) (by decide +kernel)) (by rw [← zipD_eq]; exact ei_zipL g3 (ee_var 0 rfl p1) (ee_var 1 rfl p2)) (by rw [zip_self, List.length_map]; exact hz) ?_))).isd ?_) g5.sub fun v S3 H3 g6 pv => q v S3 H3 (g4.trans (g5.trans g6)) pv
          · intro p hp v u S2 s2 pv pu sh' H0 C cl fp
            rw [zip_self] at hp
            obtain ⟨x, hx, rfl⟩ := List.mem_map.mp hp
            exact ee_callD D2 (hr.mono (by omega)) ⟨x, rfl, hbd x hx, rfl⟩ (ea_2 (ee_var 2 rfl pv) (ee_var 3 rfl pu))
          · rw [okL_same_all]; simp
        | tuple xs =>
          have hz : xs.length ≤ sizeLine := by obtain ⟨l, ys, _, _, hx, z⟩ := p1.tup_inv; rw [← hx.1]; exact z
          refine hs_ret ((ee_and (ee_eqI (ee_len g1 rfl (ee_var 0 rfl p1)) (ee_len g1 rfl (ee_var 1 rfl p2))) fun _ => ee_one (ee_all (bs := (xs.zip xs).map fun _ => true) rfl g2
            (ee_lc2 (i := 2) (j := 3) (enc := .bool) (f := fun _ => true) rfl scL_same.nd (blkOk_by (N := ["_law_found", "_law_due", "_law_a", "_law_b"]) (sc := defScope sL_same) (by decide +kernel)) (by rw [← zipD_eq]; exact ei_zipT g3 (ee_var 0 rfl p1) (ee_var 1 rfl p2)) (by rw [zip_self, List.length_map]; exact hz) ?_))).isd ?_) g5.sub fun v S3 H3 g6 pv => q v S3 H3 (g4.trans (g5.trans g6)) pv
          · intro p hp v u S2 s2 pv pu sh' H0 C cl fp
            rw [zip_self] at hp
            obtain ⟨x, hx, rfl⟩ := List.mem_map.mp hp
            exact ee_callD D2 (hr.mono (by omega)) ⟨x, rfl, hbd x hx, rfl⟩ (ea_2 (ee_var 2 rfl pv) (ee_var 3 rfl pu))
          · rw [okL_same_all]; simp
        | _ => exfalso; simp [kindN] at hk; done
      · have p1 := p1.up g5.st
        have p2 := p2.up g5.st
        have fin : ∀ b : Bool, b = true → ∀ v S3 H3, Gr S2 H2 S3 H3 → Dt K (.bool b) v S3 → Q v H3 := fun b hb v S3 H3 g6 pv => q v S3 H3 (g4.trans (g5.trans g6)) (hb ▸ pv)
        cases d with
        | none => exact hs_ret (ee_eq hr (by decide +kernel) (by decide +kernel) (ee_var 0 rfl p1) (ee_var 1 rfl p2)) g5.sub (fin _ rfl)
        | bool b => exact hs_ret (ee_eq hr (by cases b <;> decide +kernel) (by cases b <;> decide +kernel) (ee_var 0 rfl p1) (ee_var 1 rfl p2)) g5.sub (fin _ (by cases b <;> rfl))
        | int i => exact hs_ret (ee_eqI (ee_var 0 rfl p1) (ee_var 1 rfl p2)) g5.sub (fin _ (by simp))
        | str x => exact hs_ret (ee_eqS (ee_var 0 rfl p1) (ee_var 1 rfl p2)) g5.sub (fin _ (by simp))
        | list xs => exfalso; simp [kindN] at hk; done
        | tuple xs => exfalso; simp [kindN] at hk; done
        | dict xs => exfalso; cases n <;> exact hbd
  intro n
  induction n with
  | zero => exact step 0 fun m h => nomatch h
  | succ n ih => exact step (n + 1) fun m h => by cases h; exact ih
theorem scL_pow : FnScope ["_law_size", "_law_power", "_law_found", "_law_late", "_law_rest"] ["_law_size", "_law_power"] (defScope sL_pow) := ⟨rfl, rfl, rfl, by decide +kernel, rfl, by decide +kernel, by decide +kernel⟩
def FL_pow : List PyData → PyData → Prop := fun ds r => ∃ n e, ds = [.int n, .int e] ∧ r = .int (n ^ e.toNat) ∧ PowOk n e
theorem ok_L_pow (F : FnT K "_law_pow" sL_pow f fd) (gi : mg "int" = none) : FnOk P w K mg base CX0 1 f fd ["_law_size", "_law_power"] (spD K FL_pow) := by
  refine fn_hs F scL_pow (fun vs H Q E h => ?_) (fun cdv A outer sh H vs Q E hr h => ?_)
  · obtain ⟨S, ds, d, _, hd, ⟨_, _, rfl, _⟩, _⟩ := h
    exact hd.1
  · obtain ⟨S, ds, r, s, hd, ⟨n, e, rfl, rfl, h0, hb⟩, q⟩ := h
    obtain ⟨v1, v2, rfl, p1, p2⟩ := hd.two
    obtain ⟨en, rfl⟩ : ∃ en : Nat, e = (en : Int) := ⟨e.toNat, by omega⟩
    rw [Int.toNat_natCast] at hb q
    refine hs_par3 (i := 2) (j := 3) (l := 4) rfl scL_pow.nd ee_int (ee_var 0 rfl p1) (ee_var 1 rfl p2) s rfl fun w1 w2 w3 S1 H1 g1 q1 q2 q3 => ?_
    refine hs_while (fun m σ S2 => ∃ a b : Nat, a + b * m = en ∧ ∃ x y z, σ = [some v1, some v2, some x, some y, some z] ∧ Dt K (.int (n ^ a)) x S2 ∧ Dt K (.int (n ^ b)) y S2 ∧ Dt K (.int (m : Nat)) z S2) en PassesOwn.never g1.sub ⟨0, 1, by omega, w1, w2, w3, rfl, by rw [Int.pow_zero]; exact q1, by rw [Int.pow_succ, Int.pow_zero, Int.one_mul]; exact q2, q3⟩ ?_
    rintro m σ S2 H2 g2 ⟨a, b, hab, x, y, z, rfl, px, py, pz⟩
    refine ⟨decide ((0 : Int) < (m : Nat)), et_gt (ee_var 4 rfl pz) ee_int, fun hm S3 H3 g3 => ?_, fun hm S3 H3 g3 => ?_⟩
    · have hm : 0 < m := by simpa using hm
      have hbe : b ≤ b * m := Nat.le_mul_of_pos_right b hm
      have px := px.up g3.st
      have py := py.up g3.st
      have pz := pz.up g3.st
      have hmod : m = 2 * (m / 2) + m % 2 := (Nat.div_add_mod m 2).symm
      refine hs_ifJ (fun σ' S4 => ∃ (a' : Nat) (x' : V), a' + (b + b) * (m / 2) = en ∧ Dt K (.int (n ^ a')) x' S4 ∧ σ' = [some v1, some v2, some x', some y, some z]) (et_eqI (ee_mod (by decide) (ee_intOf gi (ee_var 4 rfl pz)) ee_int) ee_int) g3.sub (fun ho S4 H4 g4 => ?_) (fun ho S4 H4 g4 => ?_) ?_
      · have ho : m % 2 = 1 := by have := of_decide_eq_true ho; omega
        refine hs_set (i := 2) (ee_mul (pow_mulx hb (by omega) (by omega)) (ee_var 2 rfl (px.up g4.st)) (ee_var 3 rfl (py.up g4.st))) g4.sub scL_pow.nd fun x' S5 H5 g5 px' => hs_nil ?_
        rw [← Int.pow_add] at px'
        refine ⟨S5, g5, a + b, x', ?_, px', rfl⟩
        rw [← hab]
        conv => rhs; rw [hmod, ho]
        rw [Nat.mul_add, Nat.add_mul, ← Nat.mul_assoc, Nat.mul_comm b 2, Nat.mul_assoc]
        omega
      · have ho : m % 2 = 0 := by have := of_decide_eq_false ho; omega
        refine hs_nil ⟨S4, Gr.refl g4.sub, a, x, ?_, px.up g4.st, rfl⟩
        rw [← hab]
        conv => rhs; rw [hmod, ho]
        rw [Nat.add_zero, Nat.add_mul, ← Nat.mul_assoc, Nat.mul_comm b 2, Nat.mul_assoc]
        omega
      rintro σ' S4 H4 g4 ⟨a', x', ha', px', rfl⟩
      refine hs_set (i := 4) (P := Dt K (.int ((m / 2 : Nat) : Int))) ((ee_fdiv (wide_div (b := 31) (by decide) (by decide) (by decide) (by decide)) (ee_var 4 rfl (pz.up g4.st)) ee_int).isd (by rw [Int.natCast_ediv]; rfl)) g4.sub scL_pow.nd fun z' S5 H5 g5 pz' => ?_
      by_cases hm2 : 0 < m / 2
      · have hb2 : b + b ≤ (b + b) * (m / 2) := Nat.le_mul_of_pos_right _ hm2
        refine hs_set (i := 3) (P := Dt K (.int (n ^ b * n ^ b))) (ee_if ((et_gt (ee_var 4 rfl pz') ee_int).is (decide_eq_true (by omega))) (fun _ => ee_mul (pow_mulx hb (by omega) (by omega)) (ee_var 3 rfl ((py.up g4.st).up g5.st)) (ee_var 3 rfl ((py.up g4.st).up g5.st))) (fun h => nomatch h)) g5.sub scL_pow.nd fun y' S7 H7 g7 py' => hs_nil ?_
        rw [← Int.pow_add] at py'
        exact ⟨S7, g4.trans (g5.trans g7), m / 2, by omega, a', b + b, ha', x', y', z', rfl, (px'.up g5.st).up g7.st, py', pz'.up g7.st⟩
      · have hm0 : m / 2 = 0 := by omega
        refine hs_set (i := 3) (P := Dt K (.int (n ^ b))) (ee_if ((et_gt (ee_var 4 rfl pz') ee_int).is (decide_eq_false (by omega))) (fun h => nomatch h) (fun _ => ee_var 3 rfl ((py.up g4.st).up g5.st))) g5.sub scL_pow.nd fun y' S7 H7 g7 py' => hs_nil ?_
        rw [hm0, Nat.mul_zero] at ha'
        exact ⟨S7, g4.trans (g5.trans g7), m / 2, by omega, a', b, by rw [hm0]; omega, x', y', z', rfl, (px'.up g5.st).up g7.st, py', pz'.up g7.st⟩
    · have hm : m = 0 := by simpa using hm
      subst hm
      refine hs_ret (ee_var 2 rfl (px.up g3.st)) g3.sub fun v S4 H4 g4 pv => q v S4 H4 (g1.trans (g2.trans (g3.trans g4))) ?_
      have e1 : a = en := by omega
      rw [e1] at pv
      exact pv
def FL_mono : List PyData → PyData → Prop := fun ds r => ∃ es ns, ds = [tI es, tI ns] ∧ r = .int (monoI es ns) ∧ MonoOk es ns
theorem scL_mono : FnScope ["_law_exp_z", "_law_row", "_law_found", "_law_power", "_law_number_z"] ["_law_exp_z", "_law_row"] (defScope sL_mono) := ⟨rfl, rfl, rfl, by decide +kernel, rfl, by decide +kernel, by decide +kernel⟩
theorem ok_L_mono (F : FnT K "_law_mono" sL_mono f fd) (D1 : KD P w K mg base "_law_pow" 1 (spD K FL_pow)) (g1 : mg "zip" = none) : FnOk P w K mg base CX0 2 f fd ["_law_exp_z", "_law_row"] (spD K FL_mono) := by
  refine fn_hs F scL_mono (fun vs H Q E h => ?_) (fun cdv A outer sh H vs Q E hr h => ?_)
  · obtain ⟨S, ds, d, _, hd, ⟨_, _, rfl, _⟩, _⟩ := h
    exact hd.1
  · obtain ⟨S, ds, r, s, hd, ⟨es, ns, rfl, rfl, hm⟩, q⟩ := h
    obtain ⟨v1, v2, rfl, p1, p2⟩ := hd.two
    refine hs_set (i := 2) ee_int s scL_mono.nd fun w1 S1 H1 g2 q1 => ?_
    have hlen : ∀ K, (Ds K (zipD (es.map PyData.int) (ns.map PyData.int))).length = es.length := fun K => by rw [ds_len, zipD_eq, List.length_map, List.length_zip, List.length_map, List.length_map, ← hm.1]; omega
    refine hs_for (fun i σ S2 => ∃ x a b, σ = [some v1, some v2, some x, a, b] ∧ Dt K (.int (monoI (es.take i) (ns.take i))) x S2) PassesOwn.never rfl (ei_zipT g1 (ee_var 0 rfl (p1.up g2.st)) (ee_var 1 rfl (p2.up g2.st))) g2.sub (fun S2 H2 g3 => ⟨w1, none, none, rfl, q1.up g3.st⟩) ?_ ?_
    · rintro i Pi σ1 S2 H2 x S3 H3 hP g3 ⟨y, a, b, rfl, py⟩ g4 px
      have hi : i < es.length := by
        have := (List.getElem?_eq_some_iff.mp hP).1
        rw [hlen] at this; exact this
      have hi2 : i < ns.length := by rw [← hm.1]; exact hi
      have hz : (zipD (es.map PyData.int) (ns.map PyData.int))[i]? = some (.tuple [.int es[i], .int ns[i]]) := zipD_get (by rw [List.getElem?_map, List.getElem?_eq_getElem hi]; rfl) (by rw [List.getElem?_map, List.getElem?_eq_getElem hi2]; rfl)
      rw [ds_get hz] at hP
      obtain rfl := Option.some.inj hP
      obtain ⟨u1, u2, k1, k2, hg⟩ := eg_pair (σ := [some v1, some v2, some y, a, b]) (i := 3) (j := 4) (x := "_law_power") (y := "_law_number_z") (kk := _) (px := _) (py := _) (pos := _) (X := (cxOf CX0 P w K mg base ["_law_exp_z", "_law_row", "_law_found", "_law_power", "_law_number_z"] "_law_mono" (defScope sL_mono) f cdv A outer sh H E).nox) rfl scL_mono.nd rfl rfl (Or.inl rfl) (Or.inl rfl) px
      refine hg H3 g4.sub _ ?_
      have hpo : PowOk ns[i] es[i] := hm.2.2 (es[i], ns[i]) (List.mem_of_getElem? (i := i) (by rw [List.getElem?_zip_eq_some]; exact ⟨List.getElem?_eq_getElem hi, List.getElem?_eq_getElem hi2⟩))
      refine hs_set (i := 2) (ee_mul (mono_mulx hm (by have := hm.2.1; omega) hpo) (ee_var 2 rfl (py.up g4.st)) (ee_callD D1 hr ⟨ns[i], es[i], rfl, rfl, hpo⟩ (ea_2 (ee_var 4 rfl k2) (ee_var 3 rfl k1)))) g4.sub scL_mono.nd fun z S4 H4 g5 pz => hs_nil ?_
      refine ⟨S4, g5, z, some u1, some u2, rfl, ?_⟩
      rw [take_snoc (List.getElem?_eq_getElem hi), take_snoc (List.getElem?_eq_getElem hi2), monoI_snoc _ _ _ _ (monoOk_take hm i).1]
      exact pz
    · rintro σ1 S2 H2 g3 ⟨y, a, b, rfl, py⟩
      rw [hlen, List.take_length, hm.1, List.take_length] at py
      exact hs_ret (ee_var 2 rfl py) g3.sub fun v S3 H3 g4 pv => q v S3 H3 (g2.trans (g3.trans g4)) pv
def FL_dot : List PyData → PyData → Prop := fun ds r => ∃ a b, ds = [tI a, tI b] ∧ r = .int (dotI a b) ∧ a.length ≤ 100 ∧ ∀ p ∈ a.zip b, CMulX p.1 p.2
theorem scL_dot : FnScope ["_law_one_z", "_law_other_z", "_law_left", "_law_right"] ["_law_one_z", "_law_other_z"] (defScope sL_dot) := ⟨rfl, rfl, rfl, by decide +kernel, rfl, by decide +kernel, by decide +kernel⟩
theorem ok_L_dot (F : FnT K "_law_dot" sL_dot f fd) (g1 : mg "sum" = none) (g2 : mg "zip" = none) : FnOk P w K mg base CX0 1 f fd ["_law_one_z", "_law_other_z"] (spD K FL_dot) := by
  refine fn_hs F scL_dot (fun vs H Q E h => ?_) (fun cdv A outer sh H vs Q E hr h => ?_)
  · obtain ⟨S, ds, d, _, hd, ⟨_, _, rfl, _⟩, _⟩ := h
    exact hd.1
  · obtain ⟨S, ds, r, s, hd, ⟨a, b, rfl, rfl, hl, hm⟩, q⟩ := h
    obtain ⟨v1, v2, rfl, p1, p2⟩ := hd.two
    refine hs_ret ((ee_sum rfl g1 (ee_lc2 (i := 2) (j := 3) (enc := .int) (f := mulD) (ps := (a.zip b).map fun p => (PyData.int p.1, PyData.int p.2)) rfl scL_dot.nd (blkOk_by (N := ["_law_one_z", "_law_other_z", "_law_left", "_law_right"]) (sc := defScope sL_dot) (by decide +kernel))
      (by rw [← zip_int]; exact ei_zipT g2 (ee_var 0 rfl p1) (ee_var 1 rfl p2)) ?_ ?_)).isd ?_) s q
    · rw [List.length_map, List.length_zip]
      show _ ≤ 16777216
      omega
    · intro p hp v u S2 s2 pv pu sh' H0 C cl fp
      obtain ⟨⟨x, y⟩, hxy, rfl⟩ := List.mem_map.mp hp
      exact ee_mul (hm (x, y) hxy) (ee_var 2 rfl pv) (ee_var 3 rfl pu)
    · rw [zip_mul]
def FL_fit : List PyData → PyData → Prop := fun ds r => ∃ (ps : List (List Int × List Int)) (ro : List Int), ds = [.list (ps.map ruleD), tI ro] ∧ ps.length ≤ 1000 ∧ (∀ p ∈ ps, MonoOk p.1 ro ∧ MonoOk p.2 ro) ∧ r = .bool (keepsI ps ro)
theorem scL_fit_row : FnScope ["_law_rules", "_law_row", "_law_pair"] ["_law_rules", "_law_row"] (defScope sL_fit_row) := ⟨rfl, rfl, rfl, by decide +kernel, rfl, by decide +kernel, by decide +kernel⟩
theorem ok_L_fit_row (F : FnT K "_law_fit_row" sL_fit_row f fd) (D1 : KD P w K mg base "_law_mono" 2 (spD K FL_mono)) (g1 : mg "all" = none) : FnOk P w K mg base CX0 3 f fd ["_law_rules", "_law_row"] (spD K FL_fit) := by
  refine fn_hs F scL_fit_row (fun vs H Q E h => ?_) (fun cdv A outer sh H vs Q E hr h => ?_)
  · obtain ⟨S, ds, d, _, hd, ⟨_, _, rfl, _⟩, _⟩ := h
    exact hd.1
  · obtain ⟨S, ds, r, s, hd, ⟨ps, ro, rfl, hl, hm, rfl⟩, q⟩ := h
    obtain ⟨v1, v2, rfl, p1, p2⟩ := hd.two
    let un : PyData → Bool := fun d => match d with
      | .tuple [.tuple a, .tuple b] => decide (monoI (a.map fun x => match x with | .int i => i | _ => 0) ro ≤ monoI (b.map fun x => match x with | .int i => i | _ => 0) ro)
      | _ => false
    have un_int : ∀ l : List Int, ((l.map PyData.int).map fun x => match x with | .int i => i | _ => (0 : Int)) = l := fun l => by
      rw [List.map_map]
      exact (List.map_congr_left (fun _ _ => rfl)).trans (List.map_id l)
    have un_t : ∀ p : List Int × List Int, un (ruleD p) = decide (monoI p.1 ro ≤ monoI p.2 ro) := fun p => by
      show decide (monoI ((p.1.map PyData.int).map _) ro ≤ monoI ((p.2.map PyData.int).map _) ro) = _
      rw [un_int, un_int]
    refine hs_ret ((ee_all (bs := (ps.map ruleD).map un) rfl g1 (ee_lc (i := 2) (enc := .bool) (f := un) rfl scL_fit_row.nd (blkOk_by (N := ["_law_rules", "_law_row", "_law_pair"]) (sc := defScope sL_fit_row) (by decide +kernel)) (ei_list (ee_var 0 rfl p1)) (by rw [List.length_map]; show _ ≤ 16777216; omega) ?_)).isd ?_) s q
    · intro d hd v S2 s2 pv sh' H0 C cl fp
      obtain ⟨p, hp, rfl⟩ := List.mem_map.mp hd
      rw [un_t]
      exact ee_le (ee_callD D1 hr ⟨p.1, ro, rfl, rfl, (hm p hp).1⟩ (ea_2 (ee_ixT (ds := [tI p.1, tI p.2]) rfl (ee_var 2 rfl pv) ee_int) (ee_var 1 rfl (p2.up s2)))) (ee_callD D1 hr ⟨p.2, ro, rfl, rfl, (hm p hp).2⟩ (ea_2 (ee_ixT (ds := [tI p.1, tI p.2]) rfl (ee_var 2 rfl pv) ee_int) (ee_var 1 rfl (p2.up s2))))
    · rw [map_all]
      congr 1
      unfold keepsI
      rw [List.all_map]
      congr 1
      funext p
      exact un_t p
def Fletters : List PyData → (PyData → Prop) → Prop := fun ds G => ∃ n : Nat, ds = [.int n] ∧ n ≤ 1000 ∧ G = fun d => ∃ a st : Int, d = .str (cols a st n) ∧ stepOk st
theorem scL_letters : FnScope ["_law_box", "_law_many", "_law_letters_here", "_law_first", "_law_step", "_law_at"] ["_law_box", "_law_many"] (defScope sL_letters) := ⟨rfl, rfl, rfl, by decide +kernel, rfl, by decide +kernel, by decide +kernel⟩
theorem ok_L_letters (F : FnT K "_law_letters" sL_letters f fd) (D1 : KD P w K mg base "_law_take" 1 (spB K Ftake)) (D2 : KD P w K mg base "_law_one" 2 (spB K Fone)) (g1 : mg "range" = none) (g2 : mg "int" = none) : FnOk P w K mg base CX0 3 f fd ["_law_box", "_law_many"] (spB K Fletters) := by
  refine fn_hs F scL_letters (fun vs H Q E h => ?_) (fun cdv A outer sh H vs Q E hr h => ?_)
  · obtain ⟨S, v, ws, ds, G, rfl, _, _, hd, ⟨n, rfl, _⟩, _⟩ := h
    have := hd.1
    simp at this
    simp [this]
  · obtain ⟨S, v, ws, ds, G, rfl, s, hb, hd, ⟨n, rfl, hn, rfl⟩, q⟩ := h
    obtain ⟨v1, rfl, p1⟩ := hd.one
    refine hs_set (i := 2) ee_str s scL_letters.nd fun w1 S1 H1 gr1 q1 => ?_
    have hb1 : BX v S1 := Mn.up gr1.st hb
    refine hs_unpackE (i := 3) (j := 4) (F := fun d => ∃ a : Int, d = .int a ∧ 0 ≤ a ∧ a < 26) (G := fun d => ∃ a : Int, d = .int a ∧ stepOk a) rfl scL_letters.nd
      (ee_pairE ((ee_callBx D1 (hr.mono (by decide)) ⟨26, rfl, by decide, by decide, rfl⟩ (ea_2 (ee_var 0 rfl hb1) ee_int)).exi fun d h => h)
        ((ee_callBx D2 hr ⟨[.int 1, .int 25, .int 3, .int 7, .int 11], rfl, by decide, by decide, rfl⟩ (ea_2 (ee_var 0 rfl hb1) (ee_lst (ds := [.int 1, .int 25, .int 3, .int 7, .int 11]) (ea_cons ee_int (ea_cons ee_int (ea_cons ee_int (ea_cons ee_int (ea_cons ee_int ea_nil)))))))).exi fun d h => by
          rcases List.mem_cons.mp h with rfl | h
          · exact ⟨1, rfl, by simp [stepOk]⟩
          rcases List.mem_cons.mp h with rfl | h
          · exact ⟨25, rfl, by simp [stepOk]⟩
          rcases List.mem_cons.mp h with rfl | h
          · exact ⟨3, rfl, by simp [stepOk]⟩
          rcases List.mem_cons.mp h with rfl | h
          · exact ⟨7, rfl, by simp [stepOk]⟩
          rcases List.mem_cons.mp h with rfl | h
          · exact ⟨11, rfl, by simp [stepOk]⟩
          cases h)) gr1.sub ?_
    rintro d1 d2 u1 u2 S2 H2 ⟨a, rfl, a0, a1⟩ ⟨st, rfl, hst⟩ gr2 k1 k2
    have p2 := (p1.up gr1.st).up gr2.st
    have q2 : Dt K (.str alpha) w1 S2 := q1.up gr2.st
    let el : PyData → Str := fun d => match d with
      | .int i => ⟨#[colCode a st i.toNat]⟩
      | _ => Str.empty
    have hst' : st = 1 ∨ st = 25 ∨ st = 3 ∨ st = 7 ∨ st = 11 := by simpa [stepOk] using hst
    have e0 : (upto n).map el = ((List.range n).map (colCode a st)).map fun c => (⟨#[c]⟩ : Str) := by
      unfold upto
      rw [List.map_map, List.map_map]
      rfl
    have elen : ∀ z ∈ (upto n).map el, z.length = 1 := fun z hz => by
      rw [e0] at hz
      obtain ⟨c, _, rfl⟩ := List.mem_map.mp hz
      rfl
    have esum : (((upto n).map el).map (·.length)).sum = n := by
      have e1 : ((upto n).map el).map (·.length) = (upto n).map fun _ => 1 := by
        rw [List.map_map]
        refine List.map_congr_left fun d hd => elen (el d) (List.mem_map.mpr ⟨d, hd, rfl⟩)
      rw [e1]
      have : ∀ l : List PyData, (l.map fun _ => 1).sum = l.length := fun l => by
        induction l with
        | nil => rfl
        | cons a l ih => simp [ih]; omega
      rw [this, upto_len]
    refine hs_ret (ee_join (z := Str.empty) (ys := (upto n).map el) (by rw [esum, List.length_map, upto_len]; show n + n * 0 ≤ _; omega) ee_str (ee_lc (i := 5) (enc := .str) (f := el) rfl scL_letters.nd (blkOk_by (N := ["_law_box", "_law_many", "_law_letters_here", "_law_first", "_law_step", "_law_at"]) (sc := defScope sL_letters) (by decide +kernel))
      (ei_range g1 (by omega) (ee_var 1 rfl p2)) (by rw [upto_len]; show _ ≤ 16777216; omega) ?_)) gr2.sub ?_
    · intro d hd v S3 s3 pv sh' H0 C cl fp
      obtain ⟨i, hi, rfl⟩ := List.mem_map.mp hd
      rw [List.mem_range] at hi
      have b := @Int.emod_nonneg (a + st * (i : Nat)) 26 (by decide)
      have b2 := Int.emod_lt_of_pos (a + st * (i : Nat)) (show (0 : Int) < 26 by decide)
      have hat := alpha_at ((a + st * (i : Nat)) % 26).toNat (by omega)
      rw [Int.toNat_of_nonneg b] at hat
      exact ee_ixS alpha_len hat (ee_var 2 rfl (q2.up s3)) (ee_mod (by decide) (ee_intOf g2 (ee_add (ee_var 3 rfl (k1.up s3)) (ee_mulS (.inl (by rcases hst' with rfl | rfl | rfl | rfl | rfl <;> decide)) (ee_var 4 rfl (k2.up s3)) (ee_var 5 rfl pv)))) ee_int)
    · intro u S3 H3 gr3 pu
      rw [e0, join_signs] at pu
      exact q _ ⟨a, st, rfl, hst⟩ u S3 H3 (gr1.trans (gr2.trans gr3)) pu
def Fsome : List PyData → (PyData → Prop) → Prop := fun ds G => ∃ (n : Nat) (m z : Int), ds = [.int n, .int m, .int z] ∧ n ≤ 1000 ∧ 0 ≤ m ∧ m < 1000000 ∧ 0 ≤ z ∧ z < 1000 ∧
  G = fun d => ∃ ps : List (List Int × List Int), d = .list (ps.map ruleD) ∧ (ps.length : Int) ≤ z ∧ ∀ p ∈ ps, (p.1.length = n ∧ ∀ x ∈ p.1, 0 ≤ x ∧ x ≤ m) ∧ (p.2.length = n ∧ ∀ x ∈ p.2, 0 ≤ x ∧ x ≤ m)
theorem scL_some : FnScope ["_law_box", "_law_many", "_law_most", "_law_size", "_law_at"] ["_law_box", "_law_many", "_law_most", "_law_size"] (defScope sL_some_facts) := ⟨rfl, rfl, rfl, by decide +kernel, rfl, by decide +kernel, by decide +kernel⟩
theorem paired_any {α : Type} {enc : α → PyData} {ds rs : List PyData} {G : α → Prop} (h : Paired (fun _ d => ∃ i, d = enc i ∧ G i) ds rs) : ∃ l : List α, rs = l.map enc ∧ l.length = ds.length ∧ ∀ x ∈ l, G x := by
  induction h with
  | nil => exact ⟨[], rfl, rfl, fun _ h => nomatch h⟩
  | cons g _ ih =>
    obtain ⟨i, rfl, gi⟩ := g
    obtain ⟨l, rfl, h2, h3⟩ := ih
    exact ⟨i :: l, rfl, by simp [h2], fun x hx => by
      rcases List.mem_cons.mp hx with rfl | hx
      · exact gi
      · exact h3 x hx⟩
theorem ok_L_some_facts (F : FnT K "_law_some_facts" sL_some_facts f fd) (D1 : KD P w K mg base "_law_take" 1 (spB K Ftake)) (D2 : KD P w K mg base "_law_exp" 2 (spB K Fexp)) (g1 : mg "range" = none) : FnOk P w K mg base CX0 3 f fd ["_law_box", "_law_many", "_law_most", "_law_size"] (spB K Fsome) := by
  refine fn_hs F scL_some (fun vs H Q E h => ?_) (fun cdv A outer sh H vs Q E hr h => ?_)
  · obtain ⟨S, v, ws, ds, G, rfl, _, _, hd, ⟨n, m, z, rfl, _⟩, _⟩ := h
    have := hd.1
    simp at this
    simp [this]
  · obtain ⟨S, v, ws, ds, G, rfl, s, hb, hd, ⟨n, m, z, rfl, hn, m0, m1, z0, z1, rfl⟩, q⟩ := h
    obtain ⟨v1, v2, v3, rfl, p1, p2, p3⟩ := hd.three
    refine hs_ret ((ee_lcW (i := 4) (F := fun _ d => ∃ p : List Int × List Int, d = ruleD p ∧ (p.1.length = n ∧ ∀ x ∈ p.1, 0 ≤ x ∧ x ≤ m) ∧ (p.2.length = n ∧ ∀ x ∈ p.2, 0 ≤ x ∧ x ≤ m)) rfl scL_some.nd (blkOk_by (N := ["_law_box", "_law_many", "_law_most", "_law_size", "_law_at"]) (sc := defScope sL_some_facts) (by decide +kernel))
      (eiw_range (F := fun k => (k : Int) ≤ z) g1 (fun k hk => by omega) ((ee_callBx D1 (hr.mono (by decide)) ⟨z + 1, rfl, by omega, by omega, rfl⟩ (ea_2 (ee_var 0 rfl hb) (ee_add (ee_var 3 rfl p3) ee_int))).exi fun d ⟨i, e, i0, i1⟩ => ⟨i.toNat, by rw [e]; congr 1; omega, by omega⟩)) (fun ds ⟨k, hk, e⟩ => by rw [e, upto_len]; show _ ≤ 16777216; omega) ?_).exi
      (G := fun d => ∃ ps : List (List Int × List Int), d = .list (ps.map ruleD) ∧ (ps.length : Int) ≤ z ∧ ∀ p ∈ ps, (p.1.length = n ∧ ∀ x ∈ p.1, 0 ≤ x ∧ x ≤ m) ∧ (p.2.length = n ∧ ∀ x ∈ p.2, 0 ≤ x ∧ x ≤ m)) fun d ⟨rs, e, ds, ⟨k, hk, e2⟩, hp⟩ => ?_) s ?_
    · intro ds hds d hd v S2 s2 pv sh' H0 C cl fp
      have hb2 : BX _ S2 := Mn.up s2 hb
      refine (ee_pairE (ee_callBx D2 hr ⟨n, m, rfl, hn, m0, m1, rfl⟩ (ea_cons (ee_var 0 rfl hb2) (ea_2 (ee_var 1 rfl (p1.up s2)) (ee_var 2 rfl (p2.up s2))))) (ee_callBx D2 hr ⟨n, m, rfl, hn, m0, m1, rfl⟩ (ea_cons (ee_var 0 rfl hb2) (ea_2 (ee_var 1 rfl (p1.up s2)) (ee_var 2 rfl (p2.up s2)))))).exi ?_
      rintro d ⟨d1, d2, rfl, ⟨l1, rfl, h1⟩, ⟨l2, rfl, h2⟩⟩
      exact ⟨(l1, l2), rfl, h1, h2⟩
    · obtain ⟨l, rfl, h2, h3⟩ := paired_any (enc := ruleD) hp
      exact ⟨l, e, by rw [h2, e2, upto_len]; exact hk, h3⟩
    · rintro v S' H' g ⟨d, hd, pd⟩
      exact q d hd v S' H' g pd
end
abbrev FnM (K : PySem.W.Frag) (x q : Str) (st : Stmt) (f : Addr) (fd : FuncData) : Prop := FunD K x q (defArgs st) (defBody st) (defScope st) [] [] f fd
/-! ## schemas -/
def ColOk (z : Str) : Prop := z.cps.all (· < 128) = true ∧ z.cps.toList.Nodup ∧ 1 ≤ z.cps.size ∧ z.cps.size ≤ 3 ∧ ∀ c ∈ z.cps.toList, 97 ≤ c ∧ c ≤ 122
def RuleOk (n : Nat) (p : List Int × List Int) : Prop := (p.1.length = n ∧ ∀ x ∈ p.1, 0 ≤ x ∧ x ≤ 6) ∧ (p.2.length = n ∧ ∀ x ∈ p.2, 0 ≤ x ∧ x ≤ 6)
abbrev Rules := List (List Int × List Int)
def SchOk (z : Str) (ps : Rules) : Prop := ColOk z ∧ ps.length ≤ 4 ∧ ∀ p ∈ ps, RuleOk z.cps.size p
def schF (z : Str) (l : Addr) : List (Str × V) := [("columns", .str z), ("width", .int z.cps.size), ("_facts", .ref l)]
def SchL (K : PySem.W.Frag) (C : Addr) (z : Str) (ps : Rules) (l : Addr) : V → Hp → Prop := fun v S => ∃ a dx xs, v = .ref a ∧ S a = some (.ins C dx (schF z l)) ∧ S l = some (.lst xs) ∧ Dts K (ps.map ruleD) xs S ∧ xs.length ≤ sizeLine
def SchP (K : PySem.W.Frag) (C : Addr) (z : Str) (ps : Rules) : V → Hp → Prop := fun v S => ∃ l, SchL K C z ps l v S
instance {K : PySem.W.Frag} {C : Addr} {z : Str} {ps : Rules} {l : Addr} : Mn (SchL K C z ps l) := ⟨fun s ⟨a, dx, xs, e, h1, h2, h3, h4⟩ => ⟨a, dx, xs, e, s _ _ h1, s _ _ h2, h3.up s, h4⟩⟩
instance {K : PySem.W.Frag} {C : Addr} {z : Str} {ps : Rules} : Mn (SchP K C z ps) := ⟨fun s ⟨l, h⟩ => ⟨l, Mn.up s h⟩⟩
/-- the width is told -/
def WidP (C : Addr) (w : Int) (P0 : V → Hp → Prop) : Prop := ∀ v S, P0 v S → ∃ a dx fs, v = .ref a ∧ S a = some (.ins C dx fs) ∧ fs.lookup ("width" : Str) = some (.int w)
theorem SchP.wid {K : PySem.W.Frag} {C : Addr} {z : Str} {ps : Rules} : WidP C z.cps.size (SchP K C z ps) := fun v S ⟨l, a, dx, xs, e, h, _⟩ => ⟨a, dx, _, e, h, rfl⟩
theorem SchP.ins {K : PySem.W.Frag} {C : Addr} {z : Str} {ps : Rules} : ∀ v S, SchP K C z ps v S → ∃ a dx fs, v = .ref a ∧ S a = some (.ins C dx fs) := fun v S ⟨l, a, dx, xs, e, h, _⟩ => ⟨a, dx, _, e, h⟩
theorem SchP.insP {K : PySem.W.Frag} {C : Addr} {z : Str} {ps : Rules} {m : Str} (h : ∀ l, (schF z l).lookup m = none := by intro _; rfl) : InsP C m (SchP K C z ps) := fun v S ⟨l, a, dx, xs, e, q, _⟩ => ⟨a, dx, _, e, q, h l⟩
/-- a method that tells data -/
def spO (K : PySem.W.Frag) (F : (V → Hp → Prop) → List PyData → PyData → Prop) : Sp := fun vs H Q _ => ∃ S P0 v ws ds d, vs = v :: ws ∧ Same S H ∧ Mn P0 ∧ P0 v S ∧ Dts K ds ws S ∧ F P0 ds d ∧ ∀ u S' H', Gr S H S' H' → Dt K d u S' → Q u H'
theorem spO_E {K : PySem.W.Frag} {S : Hp} {ds : List PyData} {d : PyData} {P0 : V → Hp → Prop} {F : (V → Hp → Prop) → List PyData → PyData → Prop} [m : Mn P0] (hF : F P0 ds d) : SpE (spO K F) S (P0 :: Ds K ds) (Dt K d) := fun vs S1 H1 _ s al Q q => by
  cases al with
  | cons p r => exact ⟨S1, P0, _, _, ds, d, rfl, s, m, p, al_dts r, hF, q⟩
section
variable {P : Program} {w : World} {K : PySem.W.Frag} {mg : Str → Option Value} {base : Heap} {f : Addr} {fd : FuncData}
def stepI (p : List Int × List Int) : List Int := (p.1.zip p.2).map fun q => q.2 - q.1
def unI (d : PyData) : List Int := match d with
  | .tuple ds => ds.map fun x => match x with | .int i => i | _ => 0
  | _ => []
theorem unI_tI (l : List Int) : unI (tI l) = l := by
  show (l.map PyData.int).map _ = l
  rw [List.map_map]
  exact (List.map_congr_left (fun _ _ => rfl)).trans (List.map_id l)
def subD (q : PyData × PyData) : Int := match q with
  | (.int x, .int y) => y - x
  | _ => 0
theorem zip_sub (a b : List Int) : ((a.zip b).map fun p => (PyData.int p.1, PyData.int p.2)).map subD = stepI (a, b) := by
  rw [List.map_map]; rfl
def isRow (d : PyData) (w : Int) : Bool := match d with
  | .tuple ds => decide ((ds.length : Int) = w) && ds.all fun x => isNum x 1
  | _ => false
theorem nums_of {l : Int} : ∀ {ds : List PyData}, (ds.all fun x => isNum x l) = true → ∃ ns : List Int, ds = ns.map PyData.int ∧ ∀ n ∈ ns, l ≤ n
  | [], _ => ⟨[], rfl, fun _ h => nomatch h⟩
  | d :: ds, h => by
    rw [List.all_cons, Bool.and_eq_true] at h
    obtain ⟨ns, e, hn⟩ := nums_of h.2
    cases d with
    | int i =>
      have hi : l ≤ i := of_decide_eq_true h.1
      exact ⟨i :: ns, by rw [e]; rfl, fun n hn' => by
        rcases List.mem_cons.mp hn' with rfl | h2
        · exact hi
        · exact hn n h2⟩
    | _ => exact absurd h.1 (by simp [isNum])
def SmallD (d : PyData) : Prop := ∀ i ∈ unI d, i.natAbs ≤ 1000
theorem powOk_small {n e : Int} (hn : n.natAbs ≤ 1000) (h0 : 0 ≤ e) (h6 : e ≤ 6) : PowOk n e := by
  refine ⟨h0, ?_⟩
  have h1 : max 1 n.natAbs ≤ 2 ^ 10 := by omega
  have h2 : (max 1 n.natAbs) ^ e.toNat ≤ (2 ^ 10) ^ e.toNat := Nat.pow_le_pow_left h1 _
  have h3 : ((2 : Nat) ^ 10) ^ e.toNat ≤ (2 ^ 10) ^ 6 := Nat.pow_le_pow_right (by decide) (by omega)
  have h4 : ((2 : Nat) ^ 10) ^ 6 < 2 ^ 2000000 := by
    rw [← Nat.pow_mul]
    exact Nat.pow_lt_pow_right (by decide) (by decide)
  omega
theorem monoOk_small {es ns : List Int} {n : Nat} (h3 : n ≤ 3) (h1 : es.length = n) (h2 : ns.length = n) (he : ∀ x ∈ es, 0 ≤ x ∧ x ≤ 6) (hn : ∀ i ∈ ns, i.natAbs ≤ 1000) : MonoOk es ns := by
  refine ⟨by omega, by omega, fun p hp => ?_⟩
  have a := List.of_mem_zip hp
  exact powOk_small (hn _ a.2) (he _ a.1).1 (he _ a.1).2
theorem bits_small {i : Int} (h : i.natAbs ≤ 1000000) : Builtin.Int.intBits i ≤ 100 := by
  unfold Builtin.Int.intBits
  split
  · omega
  · have h1 : i.natAbs.log2 ≤ 20 := by
      by_cases h0 : i.natAbs = 0
      · rw [h0]; decide
      · have := (Nat.log2_lt h0 (k := 21)).mpr (by omega)
        omega
    omega
theorem mulx_small {i j : Int} (hi : i.natAbs ≤ 1000000) (hj : j.natAbs ≤ 1000000) : CMulX i j := by
  unfold CMulX
  have := bits_small hi
  have := bits_small hj
  omega
theorem step_small {n : Nat} {p : List Int × List Int} (h : RuleOk n p) : ∀ i ∈ stepI p, i.natAbs ≤ 1000 := fun i hi => by
  unfold stepI at hi
  obtain ⟨q, hq, rfl⟩ := List.mem_map.mp hi
  have a := List.of_mem_zip hq
  have b := h.1.2 _ a.1
  have c := h.2.2 _ a.2
  show (q.2 - q.1).natAbs ≤ 1000
  omega
theorem step_len {n : Nat} {p : List Int × List Int} (h : RuleOk n p) : (stepI p).length = n := by
  unfold stepI
  rw [List.length_map, List.length_zip, h.1.1, h.2.1]; omega
def ruleQ (p : List Int × List Int) : PyData × PyData := (tI p.1, tI p.2)
theorem ruleQ_t (ps : Rules) : (ps.map ruleQ).map tupP = ps.map ruleD := by
  rw [List.map_map]; rfl
def compScope (e : Expr) : Scope := match e with
  | .ListComp _ _ sc _ => sc
  | _ => defScope (.Pass ⟨0, 0, 0, 0⟩)
def retE (b : List Stmt) : Expr := match b with
  | [.Return (some e) _] => e
  | _ => .Constant .none 0 ⟨0, 0, 0, 0⟩
def FchkC : List PyData → PyData → Prop := fun ds r => ∃ z, ds = [.str z] ∧ r = .none ∧ ColOk z
theorem sc_check_columns : FnScope ["columns", "letter"] ["columns"] (defScope scheck_columns) := ⟨rfl, rfl, rfl, by decide +kernel, rfl, by decide +kernel, by decide +kernel⟩
theorem abc_mem {c : Nat} (h : 97 ≤ c ∧ c ≤ 122) : c ∈ ("abcdefghijklmnopqrstuvwxyz" : Str).cps.toList := by
  have key : ∀ k, k < 26 → 97 + k ∈ ("abcdefghijklmnopqrstuvwxyz" : Str).cps.toList := by decide +kernel
  have := key (c - 97) (by omega)
  rwa [show 97 + (c - 97) = c by omega] at this
theorem ok_check_columns (F : FnT K "check_columns" scheck_columns f fd) (g1 : mg "isinstance" = none) (g2 : mg "str" = none) (g3 : mg "len" = none) (g4 : mg "set" = none) : FnOk P w K mg base CX0 1 f fd ["columns"] (spD K FchkC) := by
  refine fn_hs F sc_check_columns (fun vs H Q E h => ?_) (fun cdv A outer sh H vs Q E hr h => ?_)
  · obtain ⟨S, ds, d, _, hd, ⟨_, rfl, _⟩, _⟩ := h
    exact hd.1
  · obtain ⟨S, ds, r, s, hd, ⟨z, rfl, rfl, ha, hnd, h1, h3, hc⟩, q⟩ := h
    obtain ⟨v1, rfl, p1⟩ := hd.one
    have hz : z.length ≤ sizeLine := Nat.le_trans h3 (by show 3 ≤ 16777216; decide)
    refine hs_ifN ((et_w (ew_or (et_not (et_val (ee_isi (isD_ok (.str z) (T := "str") (by simp)) g1 g2 boot_str (ee_var 0 rfl p1)))) fun _ => ew_or (et_not (et_chainLE ee_int (ee_len g3 rfl (ee_var 0 rfl p1) (fun x hx => by cases hx; exact hz)) ee_int)) fun _ =>
      ew_or1 (et_neI (ee_lenSetS g3 g4 (ee_var 0 rfl p1) ha hnd (by omega) rfl) (ee_len g3 rfl (ee_var 0 rfl p1) (fun x hx => by cases hx; exact hz))))).is ?_) s fun S1 H1 g => ?_
    · have e1 : ((1 : Int) ≤ (z.length : Int)) := by have : z.length = z.cps.size := rfl; omega
      have e2 : ((z.length : Int) ≤ 3) := by have : z.length = z.cps.size := rfl; omega
      have e3 : ((z.cps.size : Nat) : Int) = (z.length : Int) := rfl
      simp [isDs, e1, e2, e3]
    · refine hs_for (fun i σ S2 => ∃ a, σ = [some (.str z), a]) PassesOwn.never rfl (ei_str (ee_var 0 rfl (p1.up g.st))) g.sub (fun S2 H2 g3 => ⟨none, by cases p1; rfl⟩) ?_ ?_
      · rintro i Pi σ1 S2 H2 x S3 H3 hP g3 ⟨a, rfl⟩ g4 px
        have hi : i < z.cps.toList.length := by
          have := (List.getElem?_eq_some_iff.mp hP).1
          rw [ds_len] at this; unfold strD at this; simpa using this
        have hzi : (strD z)[i]? = some (.str ⟨#[z.cps.toList[i]]⟩) := by unfold strD; rw [List.getElem?_map, List.getElem?_eq_getElem hi]; rfl
        rw [ds_get hzi] at hP
        obtain rfl := Option.some.inj hP
        refine (eg_name (i := 1) sc_check_columns.nd rfl (Or.inl rfl)) H3 g4.sub _ ?_
        have hm := abc_mem (hc _ (List.getElem_mem hi))
        refine hs_ifN ((et_notInC (ee_var 1 rfl px) ee_str).is ?_) g4.sub fun S4 H4 g5 => hs_nil ?_
        · rw [decide_eq_true hm]; rfl
        · exact ⟨S4, g5, _, rfl⟩
      · rintro σ1 S2 H2 g3 ⟨a, rfl⟩
        exact hs_nil (q _ _ _ (g.trans g3) .non)
def Fsch_isExp (C : Addr) : (V → Hp → Prop) → List PyData → PyData → Prop := fun P0 ds d => ∃ x w, WidP C w P0 ∧ ds = [x] ∧ d = .bool (isExp x w)
theorem sc_Sis_exponent : FnScope ["self", "value"] ["self", "value"] (defScope sSchema__is_exponent) := ⟨rfl, rfl, rfl, by decide +kernel, rfl, by decide +kernel, by decide +kernel⟩
theorem ok_Sis_exponent {C : Addr} (F : FnM K "is_exponent" "Schema.is_exponent" sSchema__is_exponent f fd) (D1 : KD P w K mg base "is_exponent_schemas" 2 (spD K FisExp)) (c : Cls K C) (n1 : NoAttr K C "width") : FnOk P w K mg base CX0 3 f fd ["self", "value"] (spO K (Fsch_isExp C)) := by
  refine fn_hs F sc_Sis_exponent (fun vs H Q E h => ?_) (fun cdv A outer sh H vs Q E hr h => ?_)
  · obtain ⟨S, P0, v, ws, ds, d, rfl, _, _, _, hd, ⟨_, _, _, rfl, _⟩, _⟩ := h
    have := hd.1
    simp at this
    simp [this]
  · obtain ⟨S, P0, v, ws, ds, d, rfl, s, m, pv, hd, ⟨x, w', hw, rfl, rfl⟩, q⟩ := h
    obtain ⟨u, rfl, pu⟩ := hd.one
    haveI := m
    exact hs_ret (ee_callD D1 hr ⟨x, w', rfl, rfl⟩ (ea_2 (ee_var 1 rfl pu) (ee_fld (P := Dt K (.int w')) (ee_var 0 rfl pv) (fun v S1 h => by
      obtain ⟨a, dx, fs, e, h1, h2⟩ := hw v S1 h
      exact ⟨a, dx, fs, .int w', e, h1, h2, .int w'⟩) c n1))) s q
theorem SchP.wfld {K : PySem.W.Frag} {C : Addr} {z : Str} {ps : Rules} : ∀ v S1, SchP K C z ps v S1 → ∃ a dx fs u, v = .ref a ∧ S1 a = some (.ins C dx fs) ∧ fs.lookup ("width" : Str) = some u ∧ Dt K (.int z.cps.size) u S1 := fun v S ⟨l, a, dx, xs, e, h, _⟩ => ⟨a, dx, _, _, e, h, rfl, .int _⟩
theorem SchP.cfld {K : PySem.W.Frag} {C : Addr} {z : Str} {ps : Rules} : ∀ v S1, SchP K C z ps v S1 → ∃ a dx fs u, v = .ref a ∧ S1 a = some (.ins C dx fs) ∧ fs.lookup ("columns" : Str) = some u ∧ Dt K (.str z) u S1 := fun v S ⟨l, a, dx, xs, e, h, _⟩ => ⟨a, dx, _, _, e, h, rfl, .str _⟩
theorem SchP.ffld {K : PySem.W.Frag} {C : Addr} {z : Str} {ps : Rules} : ∀ v S1, SchP K C z ps v S1 → ∃ a dx fs u, v = .ref a ∧ S1 a = some (.ins C dx fs) ∧ fs.lookup ("_facts" : Str) = some u ∧ Dt K (.list (ps.map ruleD)) u S1 := fun v S ⟨l, a, dx, xs, e, h, h2, h3, h4⟩ => ⟨a, dx, _, _, e, h, rfl, Dt.lst_mk h2 h3 h4⟩
def spFacts (K : PySem.W.Frag) (C : Addr) : Sp := fun vs H Q _ => ∃ S z ps v, vs = [v] ∧ Same S H ∧ SchP K C z ps v S ∧ ∀ u S' H', Gr S H S' H' → NewL K S (ps.map ruleD) u S' → Q u H'
theorem spFacts_E {C : Addr} {S : Hp} {z : Str} {ps : Rules} : SpE (spFacts K C) S [SchP K C z ps] (NewL K S (ps.map ruleD)) := fun vs S1 H1 st s al Q q => by
  obtain ⟨v, rfl, pv⟩ := al.one
  exact ⟨S1, z, ps, v, rfl, s, pv, fun u S' H' g n => q u S' H' g (n.dn st)⟩
theorem sc_Sfacts : FnScope ["self"] ["self"] (defScope sSchema__facts) := ⟨rfl, rfl, rfl, by decide +kernel, rfl, by decide +kernel, by decide +kernel⟩
theorem ok_Sfacts {C : Addr} (F : FnM K "facts" "Schema.facts" sSchema__facts f fd) (g1 : mg "list" = none) (c : Cls K C) (n1 : NoAttr K C "_facts") : FnOk P w K mg base CX0 1 f fd ["self"] (spFacts K C) := by
  refine fn_hs F sc_Sfacts (fun vs H Q E h => ?_) (fun cdv A outer sh H vs Q E hr h => ?_)
  · obtain ⟨S, z, ps, v, rfl, _⟩ := h
    rfl
  · obtain ⟨S, z, ps, v, rfl, s, pv, q⟩ := h
    exact hs_ret (ee_listN g1 (.inl rfl) (ee_fld (ee_var 0 rfl pv) SchP.ffld c n1)) s q
def FSrepr (C : Addr) (K : PySem.W.Frag) : (V → Hp → Prop) → List PyData → PyData → Prop := fun P0 ds d => ∃ z ps, P0 = SchP K C z ps ∧ SchOk z ps ∧ ds = [] ∧ d = .str ((["Schema(", z, ", ", ((toString (ps.length : Int) : String) : Str), " facts)"] : List Str).foldl (· ++ ·) Str.empty)
theorem sc_Srepr : FnScope ["self"] ["self"] (defScope sSchema____repr__) := ⟨rfl, rfl, rfl, by decide +kernel, rfl, by decide +kernel, by decide +kernel⟩
theorem ok_Srepr {C : Addr} (F : FnM K "__repr__" "Schema.__repr__" sSchema____repr__ f fd) (g1 : mg "len" = none) (c : Cls K C) (n1 : NoAttr K C "_facts") (n2 : NoAttr K C "columns") : FnOk P w K mg base CX0 1 f fd ["self"] (spO K (FSrepr C K)) := by
  refine fn_hs F sc_Srepr (fun vs H Q E h => ?_) (fun cdv A outer sh H vs Q E hr h => ?_)
  · obtain ⟨S, P0, v, ws, ds, d, rfl, _, _, _, hd, ⟨_, _, _, _, rfl, _⟩, _⟩ := h
    have := hd.1
    simp at this
    simp [this]
  · obtain ⟨S, P0, v, ws, ds, d, rfl, s, m, pv, hd, ⟨z, ps, rfl, ho, rfl, rfl⟩, q⟩ := h
    have hz : z.length ≤ 3 := ho.1.2.2.2.1
    have hl := ho.2.1
    have hi : ((ps.length : Nat) : Int).natAbs.log2 < 1920 := by
      have : ((ps.length : Nat) : Int).natAbs = ps.length := by omega
      rw [this]
      refine Nat.lt_of_le_of_lt (Nat.log2_le_self _) (by omega)
    have hs5 : ∀ k : Nat, k ≤ 4 → Str.length ((toString (k : Int) : String) : Str) = 1 := by decide +kernel
    refine hs_ret (ee_joined (.cons ee_str (.cons (ee_fmtS (by show _ ≤ 16777216; omega) (ee_fld (ee_var 0 rfl pv) SchP.cfld c n2)) (.cons ee_str (.cons (ee_fmtI hi ((ee_len g1 rfl (ee_fld (ee_var 0 rfl pv) SchP.ffld c n1)).isd (d' := .int (ps.length : Nat)) (by rw [List.length_map]))) (.cons ee_str .nil))))) ?_) s q
    simp only [List.map_cons, List.map_nil, List.sum_cons, List.sum_nil]
    rw [hs5 _ hl]
    show 7 + (z.length + (2 + (1 + (7 + 0)))) ≤ 16777216
    omega
def FSsteps (C : Addr) (K : PySem.W.Frag) : (V → Hp → Prop) → List PyData → PyData → Prop := fun P0 ds d => ∃ z ps, P0 = SchP K C z ps ∧ SchOk z ps ∧ ds = [] ∧ d = .list (ps.map fun p => tI (stepI p))
theorem sc_Ssteps : FnScope ["self", "low", "high", "down", "up"] ["self"] (defScope sSchema__steps) := ⟨rfl, rfl, rfl, by decide +kernel, rfl, by decide +kernel, by decide +kernel⟩
theorem ok_Ssteps {C : Addr} (F : FnM K "steps" "Schema.steps" sSchema__steps f fd) (g1 : mg "tuple" = none) (g2 : mg "zip" = none) (c : Cls K C) (n1 : NoAttr K C "_facts") : FnOk P w K mg base CX0 1 f fd ["self"] (spO K (FSsteps C K)) := by
  refine fn_hs F sc_Ssteps (fun vs H Q E h => ?_) (fun cdv A outer sh H vs Q E hr h => ?_)
  · obtain ⟨S, P0, v, ws, ds, d, rfl, _, _, _, hd, ⟨_, _, _, _, rfl, _⟩, _⟩ := h
    have := hd.1
    simp at this
    simp [this]
  · obtain ⟨S, P0, v, ws, ds, d, rfl, s, m, pv, hd, ⟨z, ps, rfl, ho, rfl, rfl⟩, q⟩ := h
    obtain rfl : ws = [] := List.eq_nil_of_length_eq_zero hd.1
    refine hs_ret ((ee_lc2 (i := 1) (j := 2) (enc := fun d => d) (f := fun q => PyData.tuple ((stepI (unI q.1, unI q.2)).map .int)) (ps := ps.map ruleQ) rfl sc_Ssteps.nd (blkOk_by (N := ["self", "low", "high", "down", "up"]) (sc := defScope sSchema__steps) (by decide +kernel))
      (by rw [ruleQ_t]; exact ei_list (ee_fld (ee_var 0 rfl pv) SchP.ffld c n1)) (by rw [List.length_map]; exact Nat.le_trans ho.2.1 (by show 4 ≤ 16777216; decide)) ?_).isd ?_) s q
    · intro p0 hp0 v1 v2 S2 s2 p1 p2 sh' H0 C' cl fp
      obtain ⟨p, hp, rfl⟩ := List.mem_map.mp hp0
      have hr := ho.2.2 p hp
      refine ee_tupleOf g1 ((ee_lc2 (i := 3) (j := 4) (enc := .int) (f := subD) (ps := (p.1.zip p.2).map fun p => (PyData.int p.1, PyData.int p.2)) rfl sc_Ssteps.nd (blkOk_by (N := ["self", "low", "high", "down", "up"]) (sc := compScope (retE (defBody sSchema__steps))) (by decide +kernel))
        (by rw [← zip_int]; exact ei_zipT g2 (ee_var 1 rfl p1) (ee_var 2 rfl p2)) ?_ ?_).isd ?_)
      · rw [List.length_map, List.length_zip, hr.1.1, hr.2.1]
        have := ho.1.2.2.2.1
        show _ ≤ 16777216
        omega
      · intro p' hp' u1 u2 S3 s3 pu1 pu2 sh2 H2 C2 cl2 fp2
        obtain ⟨⟨x, y⟩, hxy, rfl⟩ := List.mem_map.mp hp'
        exact ee_sub (ee_var 4 rfl pu2) (ee_var 3 rfl pu1)
      · rw [zip_sub]
        show PyData.list ((stepI (p.1, p.2)).map .int) = .list ((stepI (unI (tI p.1), unI (tI p.2))).map .int)
        rw [unI_tI, unI_tI]
    · rw [List.map_map, List.map_map]
      congr 1
      refine List.map_congr_left fun p _ => ?_
      show PyData.tuple ((stepI (unI (tI p.1), unI (tI p.2))).map .int) = tI (stepI p)
      rw [unI_tI, unI_tI]; rfl
def FScont (C : Addr) (K : PySem.W.Frag) : (V → Hp → Prop) → List PyData → PyData → Prop := fun P0 ds r => ∃ z ps d, P0 = SchP K C z ps ∧ SchOk z ps ∧ ds = [d] ∧ SmallD d ∧ r = .bool (isRow d z.cps.size && keepsI ps (unI d))
theorem sc_Scont : FnScope ["self", "row", "item", "low", "high"] ["self", "row"] (defScope sSchema____contains__) := ⟨rfl, rfl, rfl, by decide +kernel, rfl, by decide +kernel, by decide +kernel⟩
theorem ok_Scont {C : Addr} (F : FnM K "__contains__" "Schema.__contains__" sSchema____contains__ f fd) (D1 : KD P w K mg base "is_number" 1 (spD K FisNumber)) (D2 : KD P w K mg base "monomial" 2 (spD K Fmonomial)) (g1 : mg "isinstance" = none) (g2 : mg "tuple" = none) (g3 : mg "len" = none) (g4 : mg "all" = none) (c : Cls K C) (n1 : NoAttr K C "_facts") (n2 : NoAttr K C "width") : FnOk P w K mg base CX0 3 f fd ["self", "row"] (spO K (FScont C K)) := by
  refine fn_hs F sc_Scont (fun vs H Q E h => ?_) (fun cdv A outer sh H vs Q E hr h => ?_)
  · obtain ⟨S, P0, v, ws, ds, d, rfl, _, _, _, hd, ⟨_, _, _, _, _, rfl, _⟩, _⟩ := h
    have := hd.1
    simp at this
    simp [this]
  · obtain ⟨S, P0, v, ws, ds, r, rfl, s, m, pv, hd, ⟨z, ps, d, rfl, ho, rfl, hsm, rfl⟩, q⟩ := h
    obtain ⟨u, rfl, pu⟩ := hd.one
    have h3 := ho.1.2.2.2.1
    by_cases hd' : ∃ es, d = .tuple es
    · obtain ⟨es, rfl⟩ := hd'
      have hz : es.length ≤ sizeLine := by obtain ⟨l, xs, _, _, hx, z⟩ := pu.tup_inv; rw [← hx.1]; exact z
      refine hs_if (et_w (ew_or (et_not (et_val (ee_isi (isD_ok (.tuple es) (T := "tuple") (by simp)) g1 g2 boot_tuple (ee_var 1 rfl pu)))) fun _ => ew_or (et_neI (ee_len g3 rfl (ee_var 1 rfl pu)) (ee_fld (ee_var 0 rfl pv) SchP.wfld c n2)) fun _ =>
        ew_or1 (et_not (et_val ((ee_all (bs := es.map fun x => isNum x 1) rfl g4 (ee_lc (i := 2) (enc := .bool) (f := fun x => isNum x 1) rfl sc_Scont.nd (blkOk_by (N := ["self", "row", "item", "low", "high"]) (sc := defScope sSchema____contains__) (by decide +kernel)) (ei_tup (ee_var 1 rfl pu)) hz ?_)).isd (d' := .bool (es.all fun x => isNum x 1)) (by rw [map_all])))))) s (fun h1 S1 H1 g => ?_) (fun h1 S1 H1 g => hs_nil ?_)
      · intro x hx v' S2 s2 pv' sh' H0 C' cl fp
        exact ee_callD D1 (hr.mono (by decide)) ⟨x, 1, rfl, rfl⟩ (ea_2 (ee_var 2 rfl pv') ee_int)
      · have hl : isRow (.tuple es) z.cps.size = false := by
          unfold isRow
          simp [isDt] at h1 ⊢
          rcases h1 with h1 | h1
          · exact fun a => absurd a h1
          · exact fun _ => h1
        refine hs_ret ee_bl g.sub fun v S2 H2 g2 pv => q v S2 H2 (g.trans g2) ?_
        rw [hl]; exact pv
      · have hl : ((es.length : Int) = z.cps.size) ∧ (es.all fun x => isNum x 1) = true := by
          simpa [isDt] using h1
        obtain ⟨ns, rfl, hn⟩ := nums_of hl.2
        have hu : unI (.tuple (ns.map .int)) = ns := unI_tI ns
        have hlen : ns.length = z.cps.size := by have := hl.1; rw [List.length_map] at this; omega
        have hsm' : ∀ i ∈ ns, i.natAbs ≤ 1000 := by unfold SmallD at hsm; rw [hu] at hsm; exact hsm
        refine hs_ret ((ee_all (bs := (ps.map ruleQ).map fun q => decide (monoI (unI q.1) ns ≤ monoI (unI q.2) ns)) rfl g4 (ee_lc2 (i := 3) (j := 4) (enc := .bool) (f := fun q => decide (monoI (unI q.1) ns ≤ monoI (unI q.2) ns)) (ps := ps.map ruleQ) rfl sc_Scont.nd (blkOk_by (N := ["self", "row", "item", "low", "high"]) (sc := defScope sSchema____contains__) (by decide +kernel))
          (by rw [ruleQ_t]; exact ei_list (ee_fld (ee_var 0 rfl (Mn.up g.st pv)) SchP.ffld c n1)) (by rw [List.length_map]; exact Nat.le_trans ho.2.1 (by show 4 ≤ 16777216; decide)) ?_)).isd ?_) g.sub fun v S2 H2 g2 pv => q v S2 H2 (g.trans g2) pv
        · intro p0 hp0 v1 v2 S2 s2 p1 p2 sh' H0 C' cl fp
          obtain ⟨p, hp, rfl⟩ := List.mem_map.mp hp0
          have hro := ho.2.2 p hp
          have e : decide (monoI (unI (ruleQ p).1) ns ≤ monoI (unI (ruleQ p).2) ns) = decide (monoI p.1 ns ≤ monoI p.2 ns) := by
            show decide (monoI (unI (tI p.1)) ns ≤ monoI (unI (tI p.2)) ns) = _
            rw [unI_tI, unI_tI]
          rw [e]
          have pu2 : Dt K (tI ns) u S2 := pu.up (g.st.trans s2)
          exact ee_le (ee_callD D2 hr ⟨p.1, ns, rfl, rfl, monoOk_small h3 hro.1.1 hlen hro.1.2 hsm'⟩ (ea_2 (ee_var 3 rfl p1) (ee_var 1 rfl pu2))) (ee_callD D2 hr ⟨p.2, ns, rfl, rfl, monoOk_small h3 hro.2.1 hlen hro.2.2 hsm'⟩ (ea_2 (ee_var 4 rfl p2) (ee_var 1 rfl pu2)))
        · rw [map_all]
          have hi : isRow (.tuple (ns.map .int)) z.cps.size = true := by
            unfold isRow
            simp only [Bool.and_eq_true, decide_eq_true_eq]
            exact hl
          rw [hi, hu, Bool.true_and]
          congr 1
          unfold keepsI
          rw [List.all_map]
          congr 1
          funext p
          show decide (monoI (unI (tI p.1)) ns ≤ monoI (unI (tI p.2)) ns) = _
          rw [unI_tI, unI_tI]
    · refine hs_ifT ((et_w (ew_or (k2 := true) (et_not (et_val (ee_isi (isD_ok d (T := "tuple") (by simp)) g1 g2 boot_tuple (ee_var 1 rfl pu)))) fun h1 => ?_)).is ?_) s fun S1 H1 g => hs_ret ee_bl g.sub fun v S2 H2 g2 pv => q v S2 H2 (g.trans g2) ?_
      · exfalso; cases d <;> first | (simp [isDt] at h1; done) | exact hd' ⟨_, rfl⟩
      · simp
      · have e : isRow d z.cps.size = false := by cases d <;> first | rfl | exact absurd ⟨_, rfl⟩ hd'
        rw [e]; exact pv
def FSfits (C : Addr) (K : PySem.W.Frag) : (V → Hp → Prop) → List PyData → PyData → Prop := fun P0 ds r => ∃ z ps d, P0 = SchP K C z ps ∧ SchOk z ps ∧ ds = [d] ∧ SmallD d ∧ r = .bool (isDir d z.cps.size && ps.all fun p => decide (0 ≤ dotI (stepI p) (unI d)))
theorem sc_Sfits : FnScope ["self", "value", "step"] ["self", "value"] (defScope sSchema__fits) := ⟨rfl, rfl, rfl, by decide +kernel, rfl, by decide +kernel, by decide +kernel⟩
theorem dir_ints {d : PyData} {w : Int} (h : isDir d w = true) : ∃ ns : List Int, d = tI ns ∧ (ns.length : Int) = w ∧ ∀ n ∈ ns, 0 ≤ n := by
  cases d with
  | tuple ds =>
    unfold isDir at h
    simp only [Bool.and_eq_true, decide_eq_true_eq] at h
    obtain ⟨ns, rfl, hn⟩ := nums_of h.2
    exact ⟨ns, rfl, by rw [← h.1, List.length_map], hn⟩
  | _ => exact absurd h (by simp [isDir])
theorem ok_Sfits {C : Addr} (F : FnM K "fits" "Schema.fits" sSchema__fits f fd) (D1 : KD P w K mg base "is_direction" 2 (spD K FisDir)) (D2 : KD P w K mg base "dot" 1 (spD K Fdot)) (D3 : KM P w K mg base C "steps" 1 (spO K (FSsteps C K))) (g1 : mg "all" = none) (c : Cls K C) (n1 : NoAttr K C "width") : FnOk P w K mg base CX0 3 f fd ["self", "value"] (spO K (FSfits C K)) := by
  refine fn_hs F sc_Sfits (fun vs H Q E h => ?_) (fun cdv A outer sh H vs Q E hr h => ?_)
  · obtain ⟨S, P0, v, ws, ds, d, rfl, _, _, _, hd, ⟨_, _, _, _, _, rfl, _⟩, _⟩ := h
    have := hd.1
    simp at this
    simp [this]
  · obtain ⟨S, P0, v, ws, ds, r, rfl, s, m, pv, hd, ⟨z, ps, d, rfl, ho, rfl, hsm, rfl⟩, q⟩ := h
    obtain ⟨u, rfl, pu⟩ := hd.one
    have h3 := ho.1.2.2.2.1
    refine hs_ret (ee_and (k1 := isDir d z.cps.size) (k2 := ps.all fun p => decide (0 ≤ dotI (stepI p) (unI d))) (ee_callD D1 hr ⟨d, z.cps.size, rfl, rfl⟩ (ea_2 (ee_var 1 rfl pu) (ee_fld (ee_var 0 rfl pv) SchP.wfld c n1))) fun h1 => ee_one ?_) s q
    obtain ⟨ns, rfl, hlen, hn⟩ := dir_ints h1
    have hsm' : ∀ i ∈ ns, i.natAbs ≤ 1000 := by unfold SmallD at hsm; rw [unI_tI] at hsm; exact hsm
    refine (ee_all (bs := (ps.map fun p => tI (stepI p)).map fun d => decide (0 ≤ dotI (unI d) ns)) rfl g1 (ee_lc (i := 2) (enc := .bool) (f := fun d => decide (0 ≤ dotI (unI d) ns)) rfl sc_Sfits.nd (blkOk_by (N := ["self", "value", "step"]) (sc := defScope sSchema__fits) (by decide +kernel))
      (ei_list (ee_meth0 D3 c (hr.mono (by decide)) (ee_var 0 rfl pv) SchP.insP (spO_E (ds := []) ⟨z, ps, rfl, ho, rfl, rfl⟩))) (by rw [List.length_map]; exact Nat.le_trans ho.2.1 (by show 4 ≤ 16777216; decide)) ?_)).isd ?_
    · intro d0 hd0 v1 S2 s2 p1 sh' H0 C' cl fp
      obtain ⟨p, hp, rfl⟩ := List.mem_map.mp hd0
      have hro := ho.2.2 p hp
      rw [show decide (0 ≤ dotI (unI (tI (stepI p))) ns) = decide (0 ≤ dotI (stepI p) ns) by rw [unI_tI]]
      have pu2 : Dt K (tI ns) u S2 := pu.up s2
      exact ee_ge (ee_callD D2 (hr.mono (by decide)) ⟨stepI p, ns, rfl, rfl, by rw [step_len hro]; omega, fun q hq => mulx_small (Nat.le_trans (step_small hro _ (List.of_mem_zip hq).1) (by decide)) (Nat.le_trans (hsm' _ (List.of_mem_zip hq).2) (by decide))⟩ (ea_2 (ee_var 2 rfl p1) (ee_var 1 rfl pu2))) ee_int
    · rw [map_all, List.all_map]
      congr 1
      congr 1
      funext p
      show decide (0 ≤ dotI (unI (tI (stepI p))) ns) = decide (0 ≤ dotI (stepI p) (unI (tI ns)))
      rw [unI_tI, unI_tI]
theorem can_ints : ∀ l : List Int, PyData.canLayAll0 (l.map .int) = true
  | [] => by simp [PyData.canLayAll0]
  | a :: l => by simp [PyData.canLayAll0, PyData.canLay0, can_ints l]
theorem dep_ints : ∀ l : List Int, PyData.depthAll (l.map .int) ≤ 1
  | [] => by simp [PyData.depthAll]
  | a :: l => by have := dep_ints l; simp [PyData.depthAll, PyData.depth]; omega
theorem can_rule (p : List Int × List Int) : PyData.canLay0 (ruleD p) = true := by
  show PyData.canLay0 (.tuple [.tuple (p.1.map .int), .tuple (p.2.map .int)]) = true
  simp [PyData.canLay0, PyData.canLayAll0, can_ints]
theorem dep_rule (p : List Int × List Int) : PyData.depth (ruleD p) ≤ 3 := by
  show PyData.depth (.tuple [.tuple (p.1.map .int), .tuple (p.2.map .int)]) ≤ 3
  have := dep_ints p.1
  have := dep_ints p.2
  simp [PyData.depth, PyData.depthAll]; omega
theorem can_rules : ∀ ps : Rules, PyData.canLayAll0 (ps.map ruleD) = true
  | [] => by simp [PyData.canLayAll0]
  | p :: ps => by simp [PyData.canLayAll0, can_rule, can_rules ps]
theorem dep_rules : ∀ ps : Rules, PyData.depthAll (ps.map ruleD) ≤ 4
  | [] => by simp [PyData.depthAll]
  | p :: ps => by have := dep_rules ps; have := dep_rule p; simp [PyData.depthAll]; omega
theorem shaped_rules (ps : Rules) : SeqAt.shaped (.list (ps.map ruleD)) = true := by
  unfold SeqAt.shaped
  rw [Bool.and_eq_true, decide_eq_true_eq]
  have := dep_rules ps
  refine ⟨by simp [PyData.canLay0, can_rules], by simp [PyData.depth]; omega⟩
def eqvR (p1 p2 : Rules) : Bool := PyData.eqv (.list (p1.map ruleD)) (.list (p2.map ruleD))
theorem eqvR_refl (ps : Rules) : eqvR ps ps = true := SeqAt.eqv_refl _ (by simp [PyData.canLay0, can_rules])
theorem eqvR_len {p1 p2 : Rules} (h : p1.length ≠ p2.length) : eqvR p1 p2 = false := by
  unfold eqvR
  rw [PyData.eqv]
  exact SeqAt.eqvAll_other_length (by rw [List.length_map, List.length_map]; exact h)
def EqR (K : PySem.W.Frag) (C : Addr) (S : Hp) (v w : V) (b : Bool) : Prop := ∃ z1 ps1, SchP K C z1 ps1 v S ∧ ((∃ z2 ps2, SchP K C z2 ps2 w S ∧ b = (decide (z1 = z2) && eqvR ps1 ps2)) ∨ (∃ y, w = .str y ∧ b = false))
def spEqS (K : PySem.W.Frag) (C : Addr) : Sp := fun vs H Q _ => ∃ S v w b, vs = [v, w] ∧ Same S H ∧ EqR K C S v w b ∧ ∀ S' H', Gr S H S' H' → Q (.bl b) H'
structure IsiC (K : PySem.W.Frag) (C : Addr) : Prop where
  cls : PySem.W.findIn K (.ref C) "__class__" = some (some (.builtin "object.__class__"))
  str : PySem.W.kitOne K (.type "str") (.ref C) = some false
  sp : PySem.W.specialIn K (.builtin "object.__class__") "__get__" = some (some (.builtin "getset_descriptor.__get__"))
  tk : PySem.W.takesIn K (.builtin "object.__class__") = some true
  ob : PySem.W.mroIn K C (.type "object") = some true
theorem ee_isiO {X : Cx} {σ : L2.St} {S : Hp} {a : Expr} {p p2 pos : Pos} {cn : Str} {C : Addr} {Pa : V → Hp → Prop} {k : Bool} [Mn Pa] (hm : X.mg "isinstance" = none) (hmC : X.mg cn = some (.ref C)) (ha : EE X σ S a Pa) (ht : ∀ v S1 H1, Same S1 H1 → Pa v S1 → ∃ t, TyX X.K H1 v t ∧ PySem.W.kitOne X.K t (.ref C) = some k)
    (hg : Gl X "isinstance" := by rfl) (hgT : Gl X cn := by rfl) (hn : cn ≠ "__name__" := by decide) (hdb : (cn == ("__debug__" : Str)) = false := by decide)
    (hs : starEach [a, .Name cn p2] X.env = (false, eval a X.env) :: starEach [.Name cn p2] X.env := by rfl) : EE X σ S (.Call (.Name "isinstance" p) [a, .Name cn p2] [] pos) (Dt X.K (.bool k)) := by
  haveI : Mn (fun (w : V) (_ : Hp) => w = .ref C) := ⟨fun _ h => h⟩
  refine ee_callB call_isi hm boot_isinstance (ea_2 ha (ee_glob (P := fun w _ => w = .ref C) (v := .ref C) (u := .ref C) hmC rfl rfl hgT hdb) hs rfl) (fun vs S1 H1 _ s al Q q => ?_) hg (he := hs) (hpl := by rfl)
  obtain ⟨v, w, rfl, pv, rfl⟩ := al.two
  obtain ⟨t, h1, h2⟩ := ht v S1 H1 s pv
  exact ⟨v, .ref C, t, .ref C, k, rfl, .own C, h1, h2, q _ S1 H1 (Gr.refl s) (.bl k)⟩
theorem sc_Seq : FnScope ["self", "other"] ["self", "other"] (defScope sSchema____eq__) := ⟨rfl, rfl, rfl, by decide +kernel, rfl, by decide +kernel, by decide +kernel⟩
theorem ok_Seq {C : Addr} (F : FnM K "__eq__" "Schema.__eq__" sSchema____eq__ f fd) (g1 : mg "isinstance" = none) (gS : mg "Schema" = some (.ref C)) (c : Cls K C) (J : IsiC K C) (n1 : NoAttr K C "columns") (n2 : NoAttr K C "_facts") : FnOk P w K mg base CX0 1 f fd ["self", "other"] (spEqS K C) := by
  refine fn_hs F sc_Seq (fun vs H Q E h => ?_) (fun cdv A outer sh H vs Q E hr h => ?_)
  · obtain ⟨S, v, w, b, rfl, _⟩ := h
    rfl
  · obtain ⟨S, v, w', b, rfl, s, ⟨z1, ps1, pv, h⟩, q⟩ := h
    rcases h with ⟨z2, ps2, pw, rfl⟩ | ⟨y, rfl, rfl⟩
    · refine hs_ret ((ee_and (k1 := true) (k2 := decide (z1 = z2) && eqvR ps1 ps2) (ee_isiO g1 gS (ee_var 1 rfl pw) (fun v S1 H1 s1 p => ?_)) fun _ => ee_and (ee_eqS (ee_fld (ee_var 0 rfl pv) SchP.cfld c n1) (ee_fld (ee_var 1 rfl pw) SchP.cfld c n1)) fun _ => ee_one (ee_eq hr (shaped_rules ps1) (shaped_rules ps2) (ee_fld (ee_var 0 rfl pv) SchP.ffld c n2) (ee_fld (ee_var 1 rfl pw) SchP.ffld c n2)))) s fun v S' H' g p => ?_
      · obtain ⟨a, dx, fs, rfl, e⟩ := SchP.ins _ _ p
        exact ⟨.ref C, .base (.ins (s1 _ _ e) c J.cls J.sp J.tk J.ob), by unfold PySem.W.kitOne; simp⟩
      · cases p
        exact q S' H' g
    · haveI : Mn (fun (w : V) (_ : Hp) => w = .str y) := ⟨fun _ h => h⟩
      refine hs_ret (ee_and (k1 := false) (k2 := true) (ee_isiO g1 gS (ee_var 1 rfl (P := fun w _ => w = .str y) rfl) (fun v S1 H1 s1 p => ?_)) fun h => nomatch h) s fun v S' H' g p => ?_
      · subst p
        exact ⟨.type "str", .base (.str y), J.str⟩
      · cases p
        exact q S' H' g
theorem rule_keep {K : PySem.W.Frag} {S S' : Hp} {p : List Int × List Int} {v : V} (k : ∀ b ys, SqT K S b ys → SqT K S' b ys) (h : Dt K (ruleD p) v S) : Dt K (ruleD p) v S' := by
  obtain ⟨a, xs, rfl, ht, hx, z⟩ := Dt.tup_inv (ds := [tI p.1, tI p.2]) h
  obtain ⟨x, y, rfl, p1, p2⟩ := hx.two
  have key : ∀ {l : List Int} {x : V}, Dt K (tI l) x S → Dt K (tI l) x S' := fun {l x} q => by
    obtain ⟨b, ys, rfl, ht, hy, z⟩ := Dt.tup_inv (ds := l.map .int) q
    rw [dts_int hy] at ht z
    exact Dt.tup_mk (k _ _ ht) (int_dts l S') z
  exact Dt.tup_mk (ds := [tI p.1, tI p.2]) (k _ _ ht) (Dts.cons (key p1) (Dts.cons (key p2) .nil)) z
theorem rules_keep {K : PySem.W.Frag} {S S' : Hp} {ps : Rules} {xs : List V} (k : ∀ b ys, SqT K S b ys → SqT K S' b ys) (h : Dts K (ps.map ruleD) xs S) : Dts K (ps.map ruleD) xs S' := ⟨h.1, fun i x d hx hd => by
  obtain ⟨p, hp, rfl⟩ := List.mem_map.mp (List.mem_of_getElem? hd)
  exact rule_keep k (h.2 i x _ hx hd)⟩
theorem sqt_put {K : PySem.W.Frag} {S : Hp} {a : Addr} {o u : HO} (h : S a = some o) (n1 : ∀ xs, o ≠ .tup xs) (n2 : ∀ x y, o ≠ .frz x y) : ∀ b ys, SqT K S b ys → SqT K (upd S a u) b ys := fun b ys q => by
  rcases q with (q | ⟨w, q⟩) | q
  · exact .inl (.inl (by rw [upd_ne (fun z => by subst z; rw [h] at q; cases q; exact n1 _ rfl)]; exact q))
  · exact .inl (.inr ⟨w, by rw [upd_ne (fun z => by subst z; rw [h] at q; cases q; exact n2 _ _ rfl)]; exact q⟩)
  · exact .inr q
theorem sqt_del {K : PySem.W.Frag} {S : Hp} {a : Addr} {o : HO} (h : S a = some o) (n1 : ∀ xs, o ≠ .tup xs) (n2 : ∀ x y, o ≠ .frz x y) : ∀ b ys, SqT K S b ys → SqT K (del S a) b ys := fun b ys q => by
  rcases q with (q | ⟨w, q⟩) | q
  · exact .inl (.inl (by rw [del_ne (fun z => by subst z; rw [h] at q; cases q; exact n1 _ rfl)]; exact q))
  · exact .inl (.inr ⟨w, by rw [del_ne (fun z => by subst z; rw [h] at q; cases q; exact n2 _ _ rfl)]; exact q⟩)
  · exact .inr q
def Finit (K : PySem.W.Frag) (C : Addr) : List PyData → (Addr → V → Hp → Prop) → Prop := fun ds R => ∃ z d ps, ds = [.str z, d] ∧ (d = .list (ps.map ruleD) ∨ d = .tuple (ps.map ruleD)) ∧ SchOk z ps ∧ R = SchL K C z ps
theorem sc_Sinit : FnScope ["self", "columns", "facts", "at", "fact"] ["self", "columns", "facts"] (defScope sSchema____init__) := ⟨rfl, rfl, rfl, by decide +kernel, rfl, by decide +kernel, by decide +kernel⟩
theorem exp_rule {n : Nat} {l : List Int} (h1 : l.length = n) (h2 : ∀ x ∈ l, 0 ≤ x ∧ x ≤ 6) : isExp (tI l) n = true := by
  show (decide (((l.map PyData.int).length : Int) = n) && (l.map PyData.int).all fun x => isNum x 0 && leNum x 6) = true
  rw [List.length_map, h1, List.all_map, Bool.and_eq_true]
  refine ⟨by simp, ?_⟩
  rw [List.all_eq_true]
  intro x hx
  show (decide (0 ≤ x) && decide (x ≤ 6)) = true
  rw [Bool.and_eq_true, decide_eq_true_eq, decide_eq_true_eq]
  exact h2 x hx
/-- C.f, a constant of the class -/
theorem ee_cval {X : Cx} {σ : L2.St} {S : Hp} {x f : Str} {p pos : Pos} {C : Addr} {mc : Value} {v : V} {u : Value} {P : V → Hp → Prop} (hm : X.mg x = some (.ref C)) (r : ClX.CRead X.K C mc) (k : ClX.CVal X.K C mc f v u) (h : ∀ S1, P v S1) (hg : Gl X x := by rfl) (hd : (x == ("__debug__" : Str)) = false := by decide) (hb : attributeBase (.Name x p) f X.env (eval (.Name x p) X.env) = eval (.Name x p) X.env := by rfl) : EE X σ S (.Attribute (.Name x p) f pos) P := fun H s Q q =>
  he_of (ClX.pe_cval (pe_glob hg hm (v := .ref C) rfl hd) hb) ⟨C, mc, v, u, rfl, r, k, q v S H (Gr.refl s) (h S)⟩
theorem enum_get {ds : List PyData} {i : Nat} {d : PyData} (h : ds[i]? = some d) : (enumD ds)[i]? = some (.tuple [.int i, d]) := by
  unfold enumD
  have hi := (List.getElem?_eq_some_iff.mp h).1
  exact zipD_get (upto_get hi) h
theorem enum_len {K : PySem.W.Frag} {ds : List PyData} : (Ds K (enumD ds)).length = ds.length := by
  rw [ds_len]; unfold enumD zipD; rw [List.length_zipWith, upto_len]; omega
theorem ok_Sinit {C : Addr} {mc : Value} {dvs : List V} {t : Tok} (F : FunD K "__init__" "Schema.__init__" (defArgs sSchema____init__) (defBody sSchema____init__) (defScope sSchema____init__) dvs [] f fd) (D1 : KD P w K mg base "check_columns" 1 (spD K FchkC)) (D2 : KM P w K mg base C "is_exponent" 3 (spO K (Fsch_isExp C))) (c : Cls K C)
    (n1 : NoAttr K C "columns") (n2 : NoAttr K C "width") (n3 : NoAttr K C "_facts") (gS : mg "Schema" = some (.ref C)) (cr : ClX.CRead K C mc) (cv : ClX.CVal K C mc "MOST" (.int 4) (.int 4 t)) (g1 : mg "len" = none) (g2 : mg "isinstance" = none) (g3 : mg "list" = none) (g4 : mg "tuple" = none) (g5 : mg "enumerate" = none) :
    FnOk P w K mg base CX0 4 f fd ["self", "columns", "facts"] (spI C K (Finit K C)) := by
  refine fn_hs F sc_Sinit (fun vs H Q E h => ?_) (fun cdv A outer sh H vs Q E hr h => ?_)
  · obtain ⟨S, a, dx, ws, ds, R, rfl, _, _, _, hd, ⟨_, _, _, rfl, _⟩, _⟩ := h
    have := hd.1
    simp at this
    simp [this]
  · obtain ⟨S, a, dx, ws, ds, R, rfl, s, hSa, hHa, hd, ⟨z, d, ps, rfl, hdd, ho, rfl⟩, q⟩ := h
    obtain ⟨vc, vf, rfl, p1, p2⟩ := hd.two
    obtain rfl := p1.str_inv
    have h3 := ho.1.2.2.2.1
    have i0 := GrI.start (o := .ins C dx []) s hSa hHa
    refine hs_expr (ee_callD D1 (hr.mono (by decide)) ⟨z, rfl, rfl, ho.1⟩ (ea_1 (ee_var 1 rfl (.str z)))) i0.sub fun _ S1 H1 g6 _ => ?_
    have i1 := i0.step g6
    have a1 : S1 a = some (.ins C dx []) := g6.st _ _ upd_same
    refine hs_fld (P := Dt K (.str z)) (r := a) (C := C) (dx := dx) (fs := []) (ee_var 1 rfl (.str z)) i1.sub (fun S2 _ => ee_var 0 rfl rfl) (i1.sub _ _ a1) c n1 (by decide) fun v S2 H2 g7 pv e2 => ?_
    obtain rfl := pv.str_inv
    have i2 := (i1.step g7).put (o := .ins C dx [("columns", .str z)]) hSa
    refine hs_fld (P := Dt K (.int (z.length : Nat))) (r := a) (C := C) (dx := dx) (fs := [("columns", .str z)]) (ee_len g1 rfl (ee_var 1 rfl (.str z)) (fun x hx => by cases hx; exact Nat.le_trans h3 (by show 3 ≤ 16777216; decide))) i2.sub (fun S3 _ => ee_var 0 rfl rfl) upd_same c n2 (show 1 < 1000 by decide) fun v S3 H3 g8 pv e3 => ?_
    obtain rfl := pv.int_inv
    have i3 := (i2.step g8).put (o := .ins C dx [("columns", .str z), ("width", .int (z.length : Nat))]) hSa
    have eH3 : upd H3 a (.ins C dx (putF "width" (.int (z.length : Nat)) [("columns", .str z)])) = upd H3 a (.ins C dx [("columns", .str z), ("width", .int (z.length : Nat))]) := rfl
    rw [eH3]
    have p23 : Dt K d vf (upd S3 a (.ins C dx [("columns", .str z), ("width", .int (z.length : Nat))])) := p2.up i3.st
    generalize hS4 : upd S3 a (.ins C dx [("columns", .str z), ("width", .int (z.length : Nat))]) = S4 at i3 p23
    have a4 : S4 a = some (.ins C dx [("columns", .str z), ("width", .int (z.length : Nat))]) := by rw [← hS4]; exact upd_same
    generalize upd H3 a (.ins C dx [("columns", .str z), ("width", .int (z.length : Nat))]) = H4 at i3
    have hlt : (isD d "list" || isD d "tuple") = true := by rcases hdd with rfl | rfl <;> rfl
    refine hs_ifN ((et_not (et_val (ee_isiLT rfl g2 g3 g4 (ee_var 2 rfl p23)))).is (by rw [hlt]; rfl)) i3.sub fun S5 H5 g9 => ?_
    have i5 := i3.step g9
    have a5 := g9.st _ _ a4
    have p25 := p23.up g9.st
    have hps : ps.length ≤ sizeLine := Nat.le_trans ho.2.1 (by show 4 ≤ 16777216; decide)
    let SP : V → Hp → Prop := fun v S => v = .ref a ∧ S a = some (.ins C dx [("columns", .str z), ("width", .int (z.length : Nat))])
    haveI mSP : Mn SP := ⟨fun s ⟨e, h⟩ => ⟨e, s _ _ h⟩⟩
    have hSPw : WidP C (z.length : Nat) SP := fun v S ⟨e, h⟩ => ⟨a, dx, _, e, h, rfl⟩
    have hSPi : InsP C "is_exponent" SP := fun v S ⟨e, h⟩ => ⟨a, dx, _, e, h, rfl⟩
    refine hs_for (Ps := Ds K (enumD (ps.map ruleD))) (fun i σ S2 => ∃ x y, σ = [some (.ref a), some (.str z), some vf, x, y]) PassesOwn.never rfl (by
      rcases hdd with rfl | rfl
      · exact ei_enumL g5 (ee_var 2 rfl p25)
      · exact ei_enumT g5 (ee_var 2 rfl p25)) i5.sub (fun S2 H2 g3 => ⟨none, none, rfl⟩) ?_ ?_
    · rintro i Pi σ1 S6 H6 x S7 H7 hP g10 ⟨y, y', rfl⟩ g11 px
      have hi : i < ps.length := by
        have := (List.getElem?_eq_some_iff.mp hP).1
        rw [enum_len, List.length_map] at this; exact this
      have hz : (ps.map ruleD)[i]? = some (ruleD ps[i]) := by rw [List.getElem?_map, List.getElem?_eq_getElem hi]; rfl
      rw [ds_get (enum_get hz)] at hP
      obtain rfl := Option.some.inj hP
      have hro := ho.2.2 ps[i] (List.getElem_mem hi)
      obtain ⟨u1, u2, k1, k2, hg⟩ := eg_pair (σ := [some (.ref a), some (.str z), some vf, y, y']) (i := 3) (j := 4) (x := "at") (y := "fact") (kk := _) (px := _) (py := _) (pos := _) (X := (cxOf CX0 P w K mg base ["self", "columns", "facts", "at", "fact"] "Schema.__init__" (defScope sSchema____init__) f cdv A outer sh H E).nox) rfl sc_Sinit.nd rfl rfl (Or.inl rfl) (Or.inl rfl) px
      refine hg H7 g11.sub _ ?_
      have a7 := g11.st _ _ (g10.st _ _ a5)
      refine hs_ifN ((et_w (ew_or (et_not (et_val (ee_isi (isD_ok (ruleD ps[i]) (T := "tuple") (by simp)) g2 g4 boot_tuple (ee_var 4 rfl k2)))) fun _ => ew_or1 (et_neI (ee_len g1 (d := ruleD ps[i]) (n := 2) rfl (ee_var 4 rfl k2)) ee_int))).is (by rfl)) g11.sub fun S8 H8 g12 => ?_
      have k8 := k2.up g12.st
      have a8 : SP (.ref a) S8 := ⟨rfl, g12.st _ _ a7⟩
      refine hs_ifN ((et_w (ew_or (et_not (et_val ((ee_meth D2 c (hr.mono (by decide)) (ee_var (P := SP) 0 rfl a8) hSPi (ea_1 (ee_ixT (ds := [tI ps[i].1, tI ps[i].2]) (d := tI ps[i].1) rfl (ee_var 4 rfl k8) ee_int)) (spO_E (F := Fsch_isExp C) (P0 := SP) (ds := [tI ps[i].1]) (d := .bool (isExp (tI ps[i].1) (z.length : Nat))) ⟨_, _, hSPw, rfl, rfl⟩))))) fun _ =>
        ew_or1 (et_not (et_val ((ee_meth D2 c (hr.mono (by decide)) (ee_var (P := SP) 0 rfl a8) hSPi (ea_1 (ee_ixT (ds := [tI ps[i].1, tI ps[i].2]) (d := tI ps[i].2) rfl (ee_var 4 rfl k8) ee_int)) (spO_E (F := Fsch_isExp C) (P0 := SP) (ds := [tI ps[i].2]) (d := .bool (isExp (tI ps[i].2) (z.length : Nat))) ⟨_, _, hSPw, rfl, rfl⟩))))))).is ?_) g12.sub fun S9 H9 g13 => hs_nil ?_
      · rw [exp_rule (n := z.length) hro.1.1 hro.1.2, exp_rule (n := z.length) hro.2.1 hro.2.2]; rfl
      · exact ⟨S9, g12.trans g13, _, _, rfl⟩
    · rintro σ1 S6 H6 g10 ⟨y, y', rfl⟩
      have i6 := i5.step g10
      have a6 := g10.st _ _ a5
      have p26 := p25.up g10.st
      have hlen : lenD d = some ps.length := by rcases hdd with rfl | rfl <;> (show some (ps.map ruleD).length = _; rw [List.length_map])
      refine hs_ifN ((et_gt (ee_len g1 hlen (ee_var 2 rfl p26) (fun x hx => by rcases hdd with rfl | rfl <;> cases hx)) (ee_cval (P := Dt K (.int 4)) gS cr cv (fun _ => .int 4))).is (by have := ho.2.1; rw [decide_eq_false (by omega)])) i6.sub fun S7 H7 g11 => ?_
      have i7 := i6.step g11
      have a7 := g11.st _ _ a6
      refine hs_fld (r := a) (C := C) (dx := dx) (fs := [("columns", .str z), ("width", .int (z.length : Nat))]) (ee_listN g3 hdd (ee_var 2 rfl (p26.up g11.st))) i7.sub (fun S3 _ => ee_var 0 rfl rfl) (i7.sub _ _ a7) c n3 (show 2 < 1000 by decide) fun v S8 H8 g12 pv e8 => hs_nil ?_
      obtain ⟨l, xs, rfl, h0, hl1, hx, hz⟩ := pv
      have a8 := g12.st _ _ a7
      have i8 := (i7.step g12).put (o := .ins C dx (schF z l)) hSa
      have lne : l ≠ a := fun e => by subst e; rw [a7] at h0; cases h0
      refine q l _ _ i8 (i7.st.free h0) ⟨a, dx, xs, rfl, upd_same, by rw [upd_ne lne]; exact hl1, rules_keep (sqt_put a8 (fun _ z => nomatch z) (fun _ _ z => nomatch z)) hx, hz⟩
/-- Schema is made: by two values, by one, by names -/
structure MkS (P : Program) (w : World) (K : PySem.W.Frag) (mg : Str → Option Value) (base : Heap) (C : Addr) : Prop where
  ex : ∃ fi fdi ps dv, Mk K C fi ∧ FnOk P w K mg base CX0 4 fi fdi ps (spI C K (Finit K C)) ∧ Binds K fdi ps [] ∧ (∃ us, Vals [dv] us ∧ Binds K fdi ps us) ∧ (∀ S, Dt K (.tuple []) dv S) ∧ ∃ g gV, KBn K fdi ps 1 ["facts", "columns"] g gV ∧ ∀ s v w, gV [s] [v, w] = [s, w, v]
section
variable {X : Cx} {σ : L2.St} {S : Hp} {C : Addr} {a b : Expr} {p pos q1 q2 : Pos} {z : Str} {d : PyData} {ps : Rules}
theorem ee_mk2 (M : MkS X.prog X.w X.K X.mg X.base C) (hr : Room 5 X.A) (gS : X.mg "Schema" = some (.ref C)) (ho : SchOk z ps) (hd : d = .list (ps.map ruleD) ∨ d = .tuple (ps.map ruleD)) (ha : EE X σ S a (Dt X.K (.str z))) (hb : EE X σ S b (Dt X.K d)) (hg : Gl X "Schema" := by rfl)
    (he : starEach [a, b] X.env = (false, eval a X.env) :: starEach [b] X.env := by rfl) (he2 : starEach [b] X.env = (false, eval b X.env) :: starEach [] X.env := by rfl) (hpl : (backTo pos (starEach [b] X.env)).any (·.1) = false := by rfl) : EE X σ S (.Call (.Name "Schema" p) [a, b] [] pos) (NewR (SchL X.K C z ps) S) := by
  obtain ⟨fi, fdi, ps', dv, m, G, b3, _, _, _⟩ := M.ex
  exact ee_make (ds := [.str z, d]) (dd := []) m G hr gS b3 .nil (fun _ => .nil) (ea_2 ha hb he he2) ⟨z, d, ps, rfl, hd, ho, rfl⟩ hg (by decide) he hpl
theorem ee_mk1 (M : MkS X.prog X.w X.K X.mg X.base C) (hr : Room 5 X.A) (gS : X.mg "Schema" = some (.ref C)) (ho : ColOk z) (ha : EE X σ S a (Dt X.K (.str z))) (hg : Gl X "Schema" := by rfl)
    (he : starEach [a] X.env = (false, eval a X.env) :: starEach [] X.env := by rfl) (hpl : (backTo pos (starEach [] X.env)).any (·.1) = false := by rfl) : EE X σ S (.Call (.Name "Schema" p) [a] [] pos) (NewR (SchL X.K C z []) S) := by
  obtain ⟨fi, fdi, ps', dv, m, G, _, ⟨us, hu, b2⟩, hdv, _⟩ := M.ex
  exact ee_make (ds := [.str z]) (dd := [.tuple []]) m G hr gS b2 hu (fun S => Dts.cons (hdv S) .nil) (ea_1 ha he) ⟨z, .tuple [], [], rfl, .inr rfl, ⟨ho, by simp, fun p hp => nomatch hp⟩, rfl⟩ hg (by decide) he hpl
theorem ee_mkK (M : MkS X.prog X.w X.K X.mg X.base C) (hr : Room 5 X.A) (gS : X.mg "Schema" = some (.ref C)) (ho : SchOk z ps) (hd : d = .list (ps.map ruleD) ∨ d = .tuple (ps.map ruleD)) (ha : EE X σ S a (Dt X.K d)) (hb : EE X σ S b (Dt X.K (.str z))) (hg : Gl X "Schema" := by rfl)
    (hall : (backToKw pos (keywordEach [⟨some "facts", a, q1⟩, ⟨some "columns", b, q2⟩] X.env)).all (·.1.isSome) = true := by rfl) (hks : (backToKw pos (keywordEach [⟨some "facts", a, q1⟩, ⟨some "columns", b, q2⟩] X.env)).filterMap (·.1) = (["facts", "columns"] : List Str) := by rfl)
    (hpl : ((backTo pos (starEach [] X.env)).any (·.1) || (backToKw pos (keywordEach [⟨some "facts", a, q1⟩, ⟨some "columns", b, q2⟩] X.env)).any (·.1.isNone)) = false := by rfl) : EE X σ S (.Call (.Name "Schema" p) [] [⟨some "facts", a, q1⟩, ⟨some "columns", b, q2⟩] pos) (NewR (SchL X.K C z ps) S) := by
  obtain ⟨fi, fdi, ps', dv, m, G, _, _, _, g, gV, kb, hgV⟩ := M.ex
  exact ee_makeK2 m G hr gS kb hgV ha hb ⟨z, d, ps, rfl, hd, ho, rfl⟩ hall hks (by decide) hpl hg
end
theorem newR_sch {K : PySem.W.Frag} {C : Addr} {z : Str} {ps : Rules} {S S' : Hp} {v : V} (h : NewR (SchL K C z ps) S v S') : SchP K C z ps v S' := let ⟨l, _, h⟩ := h; ⟨l, h⟩
def spWith (K : PySem.W.Frag) (C : Addr) : Sp := fun vs H Q _ => ∃ S z ps v ws qs, vs = v :: ws ∧ Same S H ∧ SchOk z (ps ++ qs) ∧ SchP K C z ps v S ∧ Dts K (qs.map ruleD) ws S ∧ ∀ u S' H', Gr S H S' H' → SchP K C z (ps ++ qs) u S' → Q u H'
theorem spWith_E {K : PySem.W.Frag} {C : Addr} {S : Hp} {z : Str} {ps qs : Rules} (ho : SchOk z (ps ++ qs)) : SpE (spWith K C) S (SchP K C z ps :: Ds K (qs.map ruleD)) (SchP K C z (ps ++ qs)) := fun vs S1 H1 _ s al Q q => by
  cases al with
  | cons p r => exact ⟨S1, z, ps, _, _, qs, rfl, s, ho, p, al_dts r, q⟩
def spWithB (K : PySem.W.Frag) (C : Addr) : Sp := fun vs H Q _ => ∃ S z ps v u qs, vs = [v, u] ∧ Same S H ∧ SchOk z (ps ++ qs) ∧ SchP K C z ps v S ∧ Dt K (.tuple (qs.map ruleD)) u S ∧ ∀ u S' H', Gr S H S' H' → SchP K C z (ps ++ qs) u S' → Q u H'
theorem sc_Swith : FnScope ["self", "facts", "at", "fact", "part"] ((["self"] : List Str) ++ (["facts"] : List Str)) (defScope sSchema__with_facts) := ⟨rfl, rfl, rfl, by decide +kernel, rfl, by decide +kernel, by decide +kernel⟩
theorem ok_Swith {C : Addr} (F : FnM K "with_facts" "Schema.with_facts" sSchema__with_facts f fd) (M : MkS P w K mg base C) (D2 : KM P w K mg base C "is_exponent" 3 (spO K (Fsch_isExp C))) (c : Cls K C) (n1 : NoAttr K C "columns") (n3 : NoAttr K C "_facts") (gS : mg "Schema" = some (.ref C)) (g1 : mg "len" = none) (g2 : mg "isinstance" = none) (g4 : mg "tuple" = none) (g5 : mg "enumerate" = none) (g6 : mg "all" = none) :
    FnR P w K mg base CX0 6 f (spWith K C) := by
  obtain ⟨oc, od, dV, kV, doc, pm, an, cdv, ct, osl, rfl, lk, hcd, hD, hK⟩ := F.ex
  obtain rfl : dV = .none := by
    rcases hD with ⟨_, e⟩ | ⟨e, _⟩
    · exact e
    · exact absurd rfl e
  have key : FnR P w K mg base CX0 6 f (fun vs H Q E => ∃ ws rest, vs = ws ++ rest ∧ ws.length = (["self"] : List Str).length ∧ rest.length ≤ sizeLine ∧ ∀ p, H p = Option.none → spWithB K C (ws ++ [V.ref p]) (upd H p (.tup rest)) Q E) := by
    refine StX.fn_star (ps := ["self"]) (pv := "facts") lk hcd sc_Swith StX.cxUp_none (StX.bind_star1 (B := fun us => bindArgs (PySem.W.fnOf "with_facts" "Schema.with_facts" (defArgs sSchema__with_facts) (defBody sSchema__with_facts) (defScope sSchema__with_facts) .none kV doc pm an cdv ct) ⟨us, []⟩) (p1 := "self") (pv := "facts") (fun a => rfl) (fun a r rs => rfl)) fun A outer sh H vs Q E hr h => ⟨_, PSs.nox psb, ?_⟩
    obtain ⟨S, z, ps, v, vf, qs, rfl, s, ho, pv, pf, q⟩ := h
    have h3 := ho.1.2.2.2.1
    have hq4 : qs.length ≤ 4 := by have := ho.2.1; rw [List.length_append] at this; omega
    refine hs_for (Ps := Ds K (enumD (qs.map ruleD))) (fun i σ S2 => ∃ x y b, σ = [some v, some vf, x, y, b]) PassesOwn.never rfl (ei_enumT g5 (ee_var 1 rfl pf)) s (fun S2 H2 g3 => ⟨none, none, none, rfl⟩) ?_ ?_
    · rintro i Pi σ1 S6 H6 x S7 H7 hP g10 ⟨y, y', y'', rfl⟩ g11 px
      have hi : i < qs.length := by
        have := (List.getElem?_eq_some_iff.mp hP).1
        rw [enum_len, List.length_map] at this; exact this
      have hz : (qs.map ruleD)[i]? = some (ruleD qs[i]) := by rw [List.getElem?_map, List.getElem?_eq_getElem hi]; rfl
      rw [ds_get (enum_get hz)] at hP
      obtain rfl := Option.some.inj hP
      have hro := ho.2.2 qs[i] (List.mem_append_right _ (List.getElem_mem hi))
      obtain ⟨u1, u2, k1, k2, hg⟩ := eg_pair (σ := [some v, some vf, y, y', y'']) (i := 2) (j := 3) (x := "at") (y := "fact") (kk := _) (px := _) (py := _) (pos := _) (X := (cxOf CX0 P w K mg base ["self", "facts", "at", "fact", "part"] "Schema.with_facts" (defScope sSchema__with_facts) f cdv A outer sh H E).nox) rfl sc_Swith.nd rfl rfl (Or.inl rfl) (Or.inl rfl) px
      refine hg H7 g11.sub _ ?_
      have pv7 : SchP K C z ps v S7 := Mn.up (g10.st.trans g11.st) pv
      refine hs_ifN ((et_w (ew_or (et_not (et_val (ee_isi (isD_ok (ruleD qs[i]) (T := "tuple") (by simp)) g2 g4 boot_tuple (ee_var 3 rfl k2)))) fun _ => ew_or (et_neI (ee_len g1 (d := ruleD qs[i]) (n := 2) rfl (ee_var 3 rfl k2)) ee_int) fun _ => ew_or1 (et_not (et_val
        ((ee_all (bs := [tI qs[i].1, tI qs[i].2].map fun d => isExp d z.cps.size) rfl g6 (ee_lc (i := 4) (enc := .bool) (f := fun d => isExp d z.cps.size) rfl sc_Swith.nd (blkOk_by (N := ["self", "facts", "at", "fact", "part"]) (sc := defScope sSchema__with_facts) (by decide +kernel)) (ei_tup (ds := [tI qs[i].1, tI qs[i].2]) (ee_var 3 rfl k2)) (by show 2 ≤ 16777216; decide) ?_)).isd (d' := .bool true) ?_))))).is (by rfl)) g11.sub fun S8 H8 g12 => hs_nil ?_
      · intro d hd v9 S9 s9 pv9 sh' H0 C' cl fp
        exact ee_meth D2 c (hr.mono (by decide)) (ee_var (P := SchP K C z ps) 0 rfl (Mn.up s9 pv7)) SchP.insP (ea_1 (ee_var 4 rfl pv9)) (spO_E (F := Fsch_isExp C) (P0 := SchP K C z ps) (ds := [d]) ⟨_, _, SchP.wid, rfl, rfl⟩)
      · have e1 : isExp (tI qs[i].1) z.cps.size = true := exp_rule (n := z.cps.size) hro.1.1 hro.1.2
        have e2 : isExp (tI qs[i].2) z.cps.size = true := exp_rule (n := z.cps.size) hro.2.1 hro.2.2
        simp [e1, e2]
      · exact ⟨S8, g12, _, _, _, rfl⟩
    · rintro σ1 S6 H6 g10 ⟨y, y', y'', rfl⟩
      have pv6 : SchP K C z ps v S6 := Mn.up g10.st pv
      refine hs_ret (ee_mk2 (ps := ps ++ qs) (d := .list (ps.map ruleD ++ qs.map ruleD)) M hr gS ho (.inl (by rw [List.map_append])) (ee_fld (ee_var 0 rfl pv6) SchP.cfld c n1) (ee_lst2 (.inl rfl) (.inr rfl) (by rw [List.length_map, List.length_map]; have := ho.2.1; rw [List.length_append] at this; show _ ≤ 16777216; omega) (ee_fld (ee_var 0 rfl pv6) SchP.ffld c n3) (ee_var 1 rfl (pf.up g10.st)))) g10.sub fun u S' H' g hu => q u S' H' (g10.trans g) (newR_sch hu)
  intro A outer sh H us vs Q E hr e0 rv h
  obtain ⟨S, z, ps, v, ws, qs, rfl, s, ho, pv, hd, q⟩ := h
  refine key A outer sh H us _ Q E hr e0 rv ⟨[v], ws, rfl, rfl, ?_, fun p hp => ⟨upd S p (.tup ws), z, ps, v, .ref p, qs, rfl, (Gr.new s hp).sub, ho, Mn.up (Same.new (s.free hp)) pv, Dt.tup_mk (sqt_of upd_same) (hd.up (Same.new (s.free hp))) ?_, fun u S' H' g hu => q u S' H' ((Gr.new s hp).trans g) hu⟩⟩ <;>
  · rw [hd.1, List.length_map]
    have := ho.2.1; rw [List.length_append] at this
    show _ ≤ 16777216
    omega
/-- what stands around the law -/
structure LE (P : Program) (w : World) (K : PySem.W.Frag) (mg : Str → Option Value) (base : Heap) (C : Addr) : Prop where
  openD : KD P w K mg base "_law_open" 1 (spOpen K)
  take : KD P w K mg base "_law_take" 1 (spB K Ftake)
  one : KD P w K mg base "_law_one" 2 (spB K Fone)
  letters : KD P w K mg base "_law_letters" 3 (spB K Fletters)
  someF : KD P w K mg base "_law_some_facts" 3 (spB K Fsome)
  odd : KD P w K mg base "_law_odd" 3 (spB K Fodd)
  same : ∀ n, KD P w K mg base "_law_same" (n + 2) (spD K (Fsame n))
  fit : KD P w K mg base "_law_fit_row" 3 (spD K FL_fit)
  ldot : KD P w K mg base "_law_dot" 1 (spD K FL_dot)
  mkS : MkS P w K mg base C
  cls : Cls K C
  n1 : NoAttr K C "columns"
  n2 : NoAttr K C "width"
  gS : mg "Schema" = some (.ref C)
  ne : NeC K C
  isi : IsiC K C
  facts : KM P w K mg base C "facts" 1 (spFacts K C)
  repr : KM P w K mg base C "__repr__" 1 (spO K (FSrepr C K))
  cont : KM P w K mg base C "__contains__" 3 (spO K (FScont C K))
  fits : KM P w K mg base C "fits" 3 (spO K (FSfits C K))
  fitsK : KMK P w K mg base C "fits" "value" 3 (spO K (FSfits C K))
  expo : KM P w K mg base C "is_exponent" 3 (spO K (Fsch_isExp C))
  withF : KMS P w K mg base C "with_facts" 6 (spWith K C)
  eqM : KM P w K mg base C "__eq__" 1 (spEqS K C)
  most : ∃ mc t, ClX.CRead K C mc ∧ ClX.CVal K C mc "MOST" (.int 4) (.int 4 t)
  flist : mg "list" = none
  flen : mg "len" = none
  frepr : mg "repr" = none
  fstr : mg "str" = none
  ftuple : mg "tuple" = none
  frange : mg "range" = none
  fall : mg "all" = none
  fisi : mg "isinstance" = none
  fint : mg "int" = none
  fbool : mg "bool" = none
abbrev NL : List Str := ["_law_script", "_law_box", "_law_turn", "_law_many", "_law_letters_here", "_law_rules", "_law_handed", "_law_made", "_law_step", "_law_row", "_law_line", "_law_late", "_law_odd_here", "_law_right", "_law_due", "_law_same_here", "_law_other_z", "_law_at", "_law_item", "_law_pair"]
theorem sc_law : FnScope NL ["_law_script"] (defScope slaw) := ⟨rfl, rfl, rfl, by decide +kernel, rfl, by decide +kernel, by decide +kernel⟩
def forBody (s : Stmt) : List Stmt := match s with
  | .For _ _ b _ _ => b
  | _ => []
def stAt (l : List Stmt) (i : Nat) : Stmt := l.getD i (.Pass ⟨0, 0, 0, 0⟩)
/-! ### plain -/
theorem all_and {α : Type} (f g : α → Bool) : ∀ l : List α, (l.all f && l.all g) = l.all fun x => f x && g x
  | [] => rfl
  | a :: l => by rw [List.all_cons, List.all_cons, List.all_cons, ← all_and f g l]; cases f a <;> cases g a <;> cases l.all f <;> cases l.all g <;> rfl
theorem sum_sub : ∀ (a b c : List Int), a.length = c.length → b.length = c.length → dotI ((a.zip b).map fun q => q.2 - q.1) c = dotI b c - dotI a c
  | [], [], [], _, _ => rfl
  | x :: a, y :: b, z :: c, h1, h2 => by
    have ih := sum_sub a b c (by simpa using h1) (by simpa using h2)
    unfold dotI at ih ⊢
    simp only [List.zip_cons_cons, List.map_cons, List.sum_cons]
    rw [ih, Int.sub_mul]
    omega
  | [], _ :: _, [], _, h2 => by simp at h2
  | _ :: _, [], [], h1, _ => by simp at h1
  | _ :: _, _ :: _, [], h1, _ => by simp at h1
  | [], _, _ :: _, h1, _ => by simp at h1
  | _ :: _, [], _ :: _, _, h2 => by simp at h2
theorem dot_comm : ∀ (a b : List Int), dotI a b = dotI b a
  | [], [] => rfl
  | [], _ :: _ => rfl
  | _ :: _, [] => rfl
  | x :: a, y :: b => by
    have ih := dot_comm a b
    unfold dotI at ih ⊢
    simp only [List.zip_cons_cons, List.map_cons, List.sum_cons]
    rw [ih, Int.mul_comm]
theorem step_dot {n : Nat} {p : List Int × List Int} (h : RuleOk n p) {l : List Int} (hl : l.length = n) : decide (0 ≤ dotI (stepI p) l) = decide (dotI l p.1 ≤ dotI l p.2) := by
  have e := sum_sub p.1 p.2 l (by rw [h.1.1, hl]) (by rw [h.2.1, hl])
  unfold stepI
  rw [e, dot_comm l p.1, dot_comm l p.2]
  congr 1
  exact propext ⟨fun h => by omega, fun h => by omega⟩
theorem isDir_t {l : List Int} {n : Nat} (h : l.length = n) (h0 : ∀ x ∈ l, 0 ≤ x) : isDir (tI l) n = true := by
  show (decide (((l.map PyData.int).length : Int) = n) && (l.map PyData.int).all fun x => isNum x 0) = true
  rw [List.length_map, h, List.all_map, Bool.and_eq_true]
  refine ⟨by simp, ?_⟩
  rw [List.all_eq_true]
  intro x hx
  exact decide_eq_true (h0 x hx)
theorem isRow_t {l : List Int} {n : Nat} (h : l.length = n) (h0 : ∀ x ∈ l, 1 ≤ x) : isRow (tI l) n = true := by
  show (decide (((l.map PyData.int).length : Int) = n) && (l.map PyData.int).all fun x => isNum x 1) = true
  rw [List.length_map, h, List.all_map, Bool.and_eq_true]
  refine ⟨by simp, ?_⟩
  rw [List.all_eq_true]
  intro x hx
  exact decide_eq_true (h0 x hx)
/-- all items, where the thing is a direction -/
theorem isExp_dir (d : PyData) (n : Int) : isExp d n = (isDir d n && (unI d).all fun i => decide (i ≤ 6)) := by
  by_cases h : isDir d n = true
  · obtain ⟨ns, rfl, hl, h0⟩ := dir_ints h
    rw [h, Bool.true_and, unI_tI]
    unfold isDir tI at h
    simp only [Bool.and_eq_true, decide_eq_true_eq] at h
    show (decide (((ns.map PyData.int).length : Int) = n) && (ns.map PyData.int).all fun x => isNum x 0 && leNum x 6) = _
    rw [← all_and, h.2]
    simp only [h.1, decide_true, Bool.true_and]
    rw [List.all_map]
    rfl
  · have h' : isDir d n = false := by simpa using h
    rw [h', Bool.false_and]
    cases d with
    | tuple ds =>
      have h'' : (decide ((ds.length : Int) = n) && ds.all fun x => isNum x 0) = false := h'
      show (decide ((ds.length : Int) = n) && ds.all fun x => isNum x 0 && leNum x 6) = false
      rw [← all_and, ← Bool.and_assoc, h'', Bool.false_and]
    | _ => rfl
theorem isRow_dir (d : PyData) (n : Int) : isRow d n = (isDir d n && (unI d).all fun i => decide (0 < i)) := by
  by_cases h : isDir d n = true
  · obtain ⟨ns, rfl, hl, h0⟩ := dir_ints h
    rw [h, Bool.true_and, unI_tI]
    unfold isDir tI at h
    unfold isRow tI
    simp only [Bool.and_eq_true, decide_eq_true_eq] at h
    simp only [h.1, decide_true, Bool.true_and]
    rw [List.all_map]
    congr 1
  · have h' : isDir d n = false := by simpa using h
    rw [h', Bool.false_and]
    cases hr : isRow d n with
    | false => rfl
    | true =>
      exfalso
      cases d with
      | tuple ds =>
        unfold isRow at hr
        simp only [Bool.and_eq_true, decide_eq_true_eq] at hr
        obtain ⟨ns, rfl, hn⟩ := nums_of hr.2
        have := isDir_t (l := ns) (n := ns.length) rfl (fun x hx => by have := hn x hx; omega)
        have e : ((ns.length : Int)) = n := by have := hr.1; rw [List.length_map] at this; exact this
        rw [e] at this
        exact h this
      | _ => exact absurd hr (by simp [isRow])
def leZ (d : PyData) : Bool := match d with
  | .int i => decide (0 ≤ i)
  | _ => false
/-- what may be drawn as an odd thing -/
def oddX (l : List Int) (n : Nat) : List PyData := [.tuple (cutD (l.map .int) (some 1) none), .tuple (l.map .int ++ [.int 1]), .list (l.map .int), .tuple ([.int 0] ++ cutD (l.map .int) (some 1) none), .tuple ([.bool true] ++ cutD (l.map .int) (some 1) none), .tuple (cutD (l.map .int) none (some (-1)) ++ [.str "2"]), .tuple (List.replicate n [.int (-1)]).flatten, .int 3, .tuple (List.replicate n [.int 7]).flatten]
def smallI (x : PyData) : Prop := (match x with | .int i => i | _ => 0).natAbs ≤ 1000
theorem smallD_t {ds : List PyData} (h : ∀ x ∈ ds, smallI x) : SmallD (.tuple ds) := fun i hi => by
  obtain ⟨x, hx, rfl⟩ := List.mem_map.mp (show i ∈ ds.map fun x => match x with | .int i => i | _ => 0 from hi)
  exact h x hx
theorem cutD_mem {α : Type} {xs : List α} {lo hi : Option Int} {x : α} (h : x ∈ cutD xs lo hi) : x ∈ xs := List.mem_of_mem_drop (List.mem_of_mem_take h)
theorem odd_small {l : List Int} {n : Nat} (hl : ∀ x ∈ l, x.natAbs ≤ 1000) {d : PyData} (h : d ∈ oddL ++ oddX l n) : SmallD d := by
  have hi : ∀ x ∈ l.map PyData.int, smallI x := fun x hx => by
    obtain ⟨i, hi, rfl⟩ := List.mem_map.mp hx
    exact hl i hi
  have hr : ∀ k : Int, k.natAbs ≤ 1000 → ∀ x ∈ (List.replicate n [PyData.int k]).flatten, smallI x := fun k hk x hx => by
    obtain ⟨y, hy, hxy⟩ := List.mem_flatten.mp hx
    rw [List.eq_of_mem_replicate hy, List.mem_singleton] at hxy
    subst hxy
    exact hk
  have none_ : ∀ d : PyData, unI d = [] → SmallD d := fun d e i hi => by rw [e] at hi; cases hi
  rcases List.mem_append.mp h with h | h
  · unfold oddL at h
    simp only [List.mem_cons, List.not_mem_nil, or_false] at h
    rcases h with rfl | rfl | rfl | rfl | rfl | rfl | rfl | rfl | rfl | rfl | rfl <;> first
      | exact none_ _ rfl
      | exact smallD_t (by decide)
      | (refine smallD_t fun x hx => ?_; simp only [List.mem_cons, List.not_mem_nil, or_false] at hx; rcases hx with rfl | rfl <;> (show _ ≤ 1000; decide))
      | (refine smallD_t fun x hx => ?_; simp only [List.mem_cons, List.not_mem_nil, or_false] at hx; subst hx; show _ ≤ 1000; decide)
  · unfold oddX at h
    simp only [List.mem_cons, List.not_mem_nil, or_false] at h
    rcases h with rfl | rfl | rfl | rfl | rfl | rfl | rfl | rfl | rfl
    · exact smallD_t fun x hx => hi x (cutD_mem hx)
    · refine smallD_t fun x hx => ?_
      rcases List.mem_append.mp hx with hx | hx
      · exact hi x hx
      · rw [List.mem_singleton] at hx; subst hx; show _ ≤ 1000; decide
    · exact none_ _ rfl
    · refine smallD_t fun x hx => ?_
      rcases List.mem_append.mp hx with hx | hx
      · rw [List.mem_singleton] at hx; subst hx; show _ ≤ 1000; decide
      · exact hi x (cutD_mem hx)
    · refine smallD_t fun x hx => ?_
      rcases List.mem_append.mp hx with hx | hx
      · rw [List.mem_singleton] at hx; subst hx; show _ ≤ 1000; decide
      · exact hi x (cutD_mem hx)
    · refine smallD_t fun x hx => ?_
      rcases List.mem_append.mp hx with hx | hx
      · exact hi x (cutD_mem hx)
      · rw [List.mem_singleton] at hx; subst hx; show _ ≤ 1000; decide
    · exact smallD_t (hr (-1) (by decide))
    · exact none_ _ rfl
    · exact smallD_t (hr 7 (by decide))
def un2 (l : List Int) (d : PyData) : Bool := match d with
  | .tuple [a, b] => decide (dotI l (unI a) ≤ dotI l (unI b))
  | _ => false
theorem un2_t (l : List Int) (p : List Int × List Int) : un2 l (ruleD p) = decide (dotI l p.1 ≤ dotI l p.2) := by
  show decide (dotI l (unI (tI p.1)) ≤ dotI l (unI (tI p.2))) = _
  rw [unI_tI, unI_tI]
def fitsI (ps : Rules) (l : List Int) : Bool := ps.all fun p => decide (dotI l p.1 ≤ dotI l p.2)
theorem fits_due {z : Str} {ps : Rules} (ho : SchOk z ps) {l : List Int} {n : Nat} (hn : z.cps.size = n) (hl : l.length = n) : (ps.all fun p => decide (0 ≤ dotI (stepI p) l)) = fitsI ps l := by
  unfold fitsI
  rw [Bool.eq_iff_iff, List.all_eq_true, List.all_eq_true]
  refine ⟨fun h p hp => ?_, fun h p hp => ?_⟩
  · rw [← step_dot (ho.2.2 p hp) (hl.trans hn.symm)]; exact h p hp
  · rw [step_dot (ho.2.2 p hp) (hl.trans hn.symm)]; exact h p hp
theorem fits_due2 {z : Str} {ps : Rules} (ho : SchOk z ps) (d : PyData) {n : Nat} (hn : z.cps.size = n) : (isDir d z.cps.size && ps.all fun p => decide (0 ≤ dotI (stepI p) (unI d))) = (isDir d n && fitsI ps (unI d)) := by
  rw [hn]
  by_cases h : isDir d n = true
  · obtain ⟨ns, rfl, hl, h0⟩ := dir_ints h
    rw [h, Bool.true_and, Bool.true_and, unI_tI]
    exact fits_due ho hn (by omega)
  · have h' : isDir d n = false := by simpa using h
    rw [h', Bool.false_and, Bool.false_and]
theorem cmp_spO {K : PySem.W.Frag} {S : Hp} {P0 : V → Hp → Prop} [m : Mn P0] {F : (V → Hp → Prop) → List PyData → PyData → Prop} {d : PyData} {b : Bool} (hF : F P0 [d] (.bool b)) : CmpP (spO K F) S P0 (Dt K d) b := fun v w S1 H1 _ s pv pw Q q =>
  ⟨S1, P0, v, [w], [d], .bool b, rfl, s, m, pv, Dts.cons pw .nil, hF, fun u S' H' g pu => by cases pu; exact q S' H' g⟩
theorem all_le (l : List Int) (m : Int) : ((l.map PyData.int).map fun x => leNum x m).all (fun b => b) = l.all fun i => decide (i ≤ m) := by
  rw [map_all, List.all_map]; rfl
def gtNum (d : PyData) : Bool := match d with
  | .int i => decide (0 < i)
  | _ => false
theorem all_gt (l : List Int) : ((l.map PyData.int).map gtNum).all (fun b => b) = l.all fun i => decide (0 < i) := by
  rw [map_all, List.all_map]; rfl
theorem all_un2 (ps : Rules) (l : List Int) : ((ps.map ruleD).map (un2 l)).all (fun b => b) = fitsI ps l := by
  rw [map_all, List.all_map]
  unfold fitsI
  congr 1
  funext p
  exact un2_t l p
theorem bd3 (a b c : Bool) : Bd 1 (.list [.bool a, .bool b, .bool c]) := fun x hx => by
  simp only [List.mem_cons, List.not_mem_nil, or_false] at hx
  rcases hx with rfl | rfl | rfl <;> trivial
theorem dot_mulx {a b : List Int} (ha : ∀ x ∈ a, x.natAbs ≤ 1000) (hb : ∀ x ∈ b, 0 ≤ x ∧ x ≤ 6) : ∀ p ∈ a.zip b, CMulX p.1 p.2 := fun p hp =>
  mulx_small (Nat.le_trans (ha _ (List.of_mem_zip hp).1) (by decide)) (by have := hb _ (List.of_mem_zip hp).2; omega)
def innerBody : List Stmt := forBody (stAt (forBody (stAt (defBody slaw) 1)) 7)
/-- the state in the law -/
def LSt (vs vb vt vm vl vr vh vmade : V) (σ : L2.St) : Prop := ∃ a b c d e f g h i j k l, σ = [some vs, some vb, some vt, some vm, some vl, some vr, some vh, some vmade, a, b, c, d, e, f, g, h, i, j, k, l]
theorem paired_mem {ds rs : List PyData} {es : List Int} (h : Paired (fun _ d => d ∈ es.map PyData.int) ds rs) : ∃ l : List Int, rs = l.map .int ∧ l.length = ds.length ∧ ∀ x ∈ l, x ∈ es := by
  refine paired_ints (G := fun i => i ∈ es) (Paired.mapP h fun a b hb => ?_)
  obtain ⟨i, hi, rfl⟩ := List.mem_map.mp hb
  exact ⟨i, rfl, hi⟩
section
variable {C : Addr} {cdv : Value} {A : Around} {outer : List Env} {sh : Shared} {H0 : Hp} {E : XK}
abbrev LX (P : Program) (w : World) (K : PySem.W.Frag) (mg : Str → Option Value) (base : Heap) (f : Addr) (cdv : Value) (A : Around) (outer : List Env) (sh : Shared) (H0 : Hp) (E : XK) : Cx := (cxOf CX0 P w K mg base NL "law" (defScope slaw) f cdv A outer sh H0 E).nox
theorem law_inner (L : LE P w K mg base C) (hr : Room 10 (LX P w K mg base f cdv A outer sh H0 E).A) {vs vb vt vm vl vr vh vmade : V} {n : Nat} {z : Str} {ps : Rules} {S H : Hp} {σ : L2.St} {D : Ends} (s : Same S H) (hb : BX vb S) (hm : Dt K (.int n) vm S) (hrl : Dt K (.list (ps.map ruleD)) vr S) (hmade : SchP K C z ps vmade S) (ho : SchOk z ps) (hn : z.cps.size = n)
    (hσ : LSt vs vb vt vm vl vr vh vmade σ) (nx : ∀ σ' S' H', Gr S H S' H' → LSt vs vb vt vm vl vr vh vmade σ' → D.nx σ' H') : HS (LX P w K mg base f cdv A outer sh H0 E) D innerBody σ H := by
  obtain ⟨a, b, c, d, e, f', g, h, i, j, k, l, rfl⟩ := hσ
  have h3 : n ≤ 3 := by rw [← hn]; exact ho.1.2.2.2.1
  have h1 : 1 ≤ n := by rw [← hn]; exact ho.1.2.2.1
  have hps : ps.length ≤ 4 := ho.2.1
  have ok1 : ∀ i, i < 20 → True := fun _ _ => trivial
  -- row
  refine hs_set (i := 9) (P := Ex K fun d => ∃ l : List Int, d = tI l ∧ l.length = n ∧ ∀ x ∈ l, x ∈ ([1, 2, 3, 5, 8, 1] : List Int)) ((ee_tupleE L.ftuple (ee_lcN (i := 17) rfl sc_law.nd (blkOk_by (N := NL) (sc := defScope slaw) (by decide +kernel)) (ei_range L.frange (by omega) (ee_var 3 rfl hm)) (by rw [upto_len]; show _ ≤ 16777216; omega)
      (F := fun _ d => d ∈ ([1, 2, 3, 5, 8, 1] : List Int).map PyData.int) fun x hx v S2 s2 pv sh' H0 C cl fp => ?_)).exi fun d ⟨rs, e, hp⟩ => ?_) s sc_law.nd fun v1 S1 H1 g1 pr => ?_
  · exact (ee_callBx L.one (hr.mono (by decide)) ⟨_, rfl, by decide, by decide, rfl⟩ (ea_2 (ee_var 1 rfl (Mn.up s2 hb)) (ee_lst (ds := ([1, 2, 3, 5, 8, 1] : List Int).map PyData.int) (ea_cons ee_int (ea_cons ee_int (ea_cons ee_int (ea_cons ee_int (ea_cons ee_int (ea_cons ee_int ea_nil)))))))))
  · obtain ⟨l, rfl, h2, h3⟩ := paired_mem hp
    exact ⟨l, e, by rw [h2, upto_len], h3⟩
  obtain ⟨_, ⟨ro, rfl, rol, rom⟩, pro⟩ := pr
  -- line
  refine hs_set (i := 10) (P := Ex K fun d => ∃ l : List Int, d = tI l ∧ l.length = n ∧ ∀ x ∈ l, x ∈ ([0, 1, 2, 0, 4] : List Int)) ((ee_tupleE L.ftuple (ee_lcN (i := 17) rfl sc_law.nd (blkOk_by (N := NL) (sc := defScope slaw) (by decide +kernel)) (ei_range L.frange (by omega) (ee_var 3 rfl (hm.up g1.st))) (by rw [upto_len]; show _ ≤ 16777216; omega)
      (F := fun _ d => d ∈ ([0, 1, 2, 0, 4] : List Int).map PyData.int) fun x hx v S2 s2 pv sh' H0 C cl fp => ?_)).exi fun d ⟨rs, e, hp⟩ => ?_) g1.sub sc_law.nd fun v2 S2 H2 g2 pr => ?_
  · exact (ee_callBx L.one (hr.mono (by decide)) ⟨_, rfl, by decide, by decide, rfl⟩ (ea_2 (ee_var 1 rfl (Mn.up (g1.st.trans s2) hb)) (ee_lst (ds := ([0, 1, 2, 0, 4] : List Int).map PyData.int) (ea_cons ee_int (ea_cons ee_int (ea_cons ee_int (ea_cons ee_int (ea_cons ee_int ea_nil))))))))
  · obtain ⟨l, rfl, h2, h3⟩ := paired_mem hp
    exact ⟨l, e, by rw [h2, upto_len], h3⟩
  obtain ⟨_, ⟨li, rfl, lil, lim⟩, pli⟩ := pr
  have G2 := g1.trans g2
  -- late
  refine hs_set (i := 11) (P := Ex K fun d => ∃ l : List Int, d = tI l ∧ l.length = n ∧ ∀ x ∈ l, x ∈ ([0, 1, 6, 7, 2] : List Int)) ((ee_tupleE L.ftuple (ee_lcN (i := 17) rfl sc_law.nd (blkOk_by (N := NL) (sc := defScope slaw) (by decide +kernel)) (ei_range L.frange (by omega) (ee_var 3 rfl (hm.up G2.st))) (by rw [upto_len]; show _ ≤ 16777216; omega)
      (F := fun _ d => d ∈ ([0, 1, 6, 7, 2] : List Int).map PyData.int) fun x hx v S2 s2 pv sh' H0 C cl fp => ?_)).exi fun d ⟨rs, e, hp⟩ => ?_) G2.sub sc_law.nd fun v3 S3 H3 g3 pr => ?_
  · exact (ee_callBx L.one (hr.mono (by decide)) ⟨_, rfl, by decide, by decide, rfl⟩ (ea_2 (ee_var 1 rfl (Mn.up (G2.st.trans s2) hb)) (ee_lst (ds := ([0, 1, 6, 7, 2] : List Int).map PyData.int) (ea_cons ee_int (ea_cons ee_int (ea_cons ee_int (ea_cons ee_int (ea_cons ee_int ea_nil))))))))
  · obtain ⟨l, rfl, h2, h3⟩ := paired_mem hp
    exact ⟨l, e, by rw [h2, upto_len], h3⟩
  obtain ⟨_, ⟨la, rfl, lal, lam⟩, pla⟩ := pr
  have G3 := G2.trans g3
  have pro3 : Dt K (tI ro) v1 S3 := pro.up (g2.st.trans g3.st)
  have ros : ∀ x ∈ ro, x.natAbs ≤ 1000 := fun x hx => by
    have := rom x hx
    simp only [List.mem_cons, List.not_mem_nil, or_false] at this
    rcases this with rfl | rfl | rfl | rfl | rfl | rfl <;> decide
  have rml : (ro.map PyData.int).length = n := by rw [List.length_map, rol]
  have cl1 : (Z.cutD (ro.map PyData.int) (some 1) none).length ≤ 3 := by unfold Z.cutD; rw [List.length_take, List.length_drop, rml]; omega
  have cl2 : (Z.cutD (ro.map PyData.int) none (some (-1))).length ≤ 3 := by unfold Z.cutD; rw [List.length_take, List.length_drop, rml]; omega
  have hm3 := hm.up G3.st
  -- odd
  refine hs_set (i := 12) (P := Ex K fun d => d ∈ oddL ++ oddX ro n) (ee_callBx L.odd (hr.mono (by decide)) ⟨oddX ro n, rfl, by show 9 ≤ 1000; decide, rfl⟩ (ea_2 (ee_var 1 rfl (Mn.up G3.st hb)) (ee_lst (ds := oddX ro n)
    (ea_cons (ee_slT (ee_var 9 rfl pro3) (eo_some ee_int) eo_none) (ea_cons (ee_catT (by rw [rml]; show n + 1 ≤ 16777216; omega) (ee_var 9 rfl pro3) (ee_tup (ds := [.int 1]) (ea_1 ee_int))) (ea_cons (ee_list L.flist (.inr rfl) (ee_var 9 rfl pro3))
      (ea_cons (ee_catT (by show 1 + _ ≤ 16777216; omega) (ee_tup (ds := [.int 0]) (ea_1 ee_int)) (ee_slT (ee_var 9 rfl pro3) (eo_some ee_int) eo_none)) (ea_cons (ee_catT (by show 1 + _ ≤ 16777216; omega) (ee_tup (ds := [.bool true]) (ea_1 ee_bl)) (ee_slT (ee_var 9 rfl pro3) (eo_some ee_int) eo_none))
        (ea_cons (ee_catT (by show _ + 1 ≤ 16777216; omega) (ee_slT (ee_var 9 rfl pro3) eo_none (eo_some (ee_neg ee_int))) (ee_tup (ds := [.str "2"]) (ea_1 ee_str))) (ea_cons (ee_repT h1 (by omega) (by show 1 ≤ 1000; decide) (by simp) (ee_tup (ds := [.int (-1)]) (ea_1 (ee_neg ee_int))) (ee_var 3 rfl hm3))
          (ea_cons ee_int (ea_cons (ee_repT h1 (by omega) (by show 1 ≤ 1000; decide) (by simp) (ee_tup (ds := [.int 7]) (ea_1 ee_int)) (ee_var 3 rfl hm3)) ea_nil))))))))) (by show 9 ≤ 16777216; decide)))) G3.sub sc_law.nd fun v4 S4 H4 g4 pr => ?_
  obtain ⟨od, hod, pod⟩ := pr
  have G4 := G3.trans g4
  have ods := odd_small ros hod
  have hm4 := hm.up G4.st
  -- right
  refine hs_set (i := 13) (P := Dt K (.bool (isDir od n))) ?_ G4.sub sc_law.nd fun v5 S5 H5 g5 pri => ?_
  · by_cases hd' : ∃ es, od = .tuple es
    · obtain ⟨es, rfl⟩ := hd'
      have hz : es.length ≤ sizeLine := by obtain ⟨l, xs, _, _, hx, z⟩ := pod.tup_inv; rw [← hx.1]; exact z
      refine (ee_and (ee_isi (isD_ok (.tuple es) (T := "tuple") (by simp)) L.fisi L.ftuple boot_tuple (ee_var 12 rfl pod)) fun _ => ee_and (ee_eqI (ee_len L.flen rfl (ee_var 12 rfl pod)) (ee_var 3 rfl hm4)) fun _ => ee_one
        (ee_all (bs := es.map fun x => isNum x 0) rfl L.fall (ee_lc (i := 18) (enc := .bool) (f := fun x => isNum x 0) rfl sc_law.nd (blkOk_by (N := NL) (sc := defScope slaw) (by decide +kernel)) (ei_tup (ee_var 12 rfl pod)) hz ?_))).isd ?_
      · intro x hx v S2 s2 pv sh' H0 C' cl fp
        have pv : Dt K x v S2 := pv
        refine EE.isd (d := .bool (isD x "int" && (!(isD x "bool") && leZ x))) ?_ ?_
        · refine ee_and (ee_isi (isD_ok x (T := "int") (by simp)) L.fisi L.fint boot_int (ee_var 18 rfl pv)) fun hi => ee_and (ee_not (ee_isi (isD_ok x (T := "bool") (by simp)) L.fisi L.fbool boot_bool (ee_var 18 rfl pv))) fun hb' => ee_one (P := Dt K (.bool (leZ x))) ?_
          cases x with
          | int i => exact ee_ge (ee_var 18 rfl pv) ee_int
          | _ => exfalso; simp [isDi, isDb] at hi hb'; done
        · cases x <;> simp [isDi, isDb, isNum, leZ]
      · rw [map_all]; simp [isDt, isDir]
    · have e : isDir od n = false := by cases od <;> first | rfl | exact absurd ⟨_, rfl⟩ hd'
      rw [e]
      refine (ee_and (k1 := isD od "tuple") (k2 := true) (ee_isi (isD_ok od (T := "tuple") (by simp)) L.fisi L.ftuple boot_tuple (ee_var 12 rfl pod)) fun hh => ?_).isd ?_
      · exfalso; cases od <;> first | (simp [isDt] at hh; done) | exact hd' ⟨_, rfl⟩
      · cases od <;> first | rfl | exact absurd ⟨_, rfl⟩ hd'
  have G5 := G4.trans g5
  have p5 : ∀ {d : PyData} {v : V} {Sx : Hp}, Dt K d v Sx → Dt K d v Sx := fun h => h
  have pr5 : Dt K (.list (ps.map ruleD)) vr S5 := hrl.up G5.st
  have pro5 : Dt K (tI ro) v1 S5 := pro3.up (g4.st.trans g5.st)
  have pli5 : Dt K (tI li) v2 S5 := pli.up (g3.st.trans (g4.st.trans g5.st))
  have pla5 : Dt K (tI la) v3 S5 := pla.up (g4.st.trans g5.st)
  have lis : ∀ x ∈ li, 0 ≤ x ∧ x.natAbs ≤ 1000 := fun x hx => by
    have := lim x hx
    simp only [List.mem_cons, List.not_mem_nil, or_false] at this
    rcases this with rfl | rfl | rfl | rfl | rfl <;> decide
  have las : ∀ x ∈ la, 0 ≤ x := fun x hx => by
    have := lam x hx
    simp only [List.mem_cons, List.not_mem_nil, or_false] at this
    rcases this with rfl | rfl | rfl | rfl | rfl <;> decide
  have rpos : ∀ x ∈ ro, 1 ≤ x := fun x hx => by
    have := rom x hx
    simp only [List.mem_cons, List.not_mem_nil, or_false] at this
    rcases this with rfl | rfl | rfl | rfl | rfl | rfl <;> decide
  have hzps : (ps.map ruleD).length ≤ sizeLine := by rw [List.length_map]; show _ ≤ 16777216; omega
  have fitOk : ∀ {ns : List Int}, ns.length = n → (∀ x ∈ ns, x.natAbs ≤ 1000) → ∀ p ∈ ps, MonoOk p.1 ns ∧ MonoOk p.2 ns := fun {ns} hl hs p hp => by
    have hro := ho.2.2 p hp
    rw [hn] at hro
    exact ⟨monoOk_small h3 hro.1.1 hl hro.1.2 hs, monoOk_small h3 hro.2.1 hl hro.2.2 hs⟩
  -- due
  refine hs_set (i := 14) (P := Dt K (.list [.bool (keepsI ps ro), .bool (fitsI ps li), .bool (la.all fun i => decide (i ≤ 6))])) (ee_lst (ds := [.bool (keepsI ps ro), .bool (fitsI ps li), .bool (la.all fun i => decide (i ≤ 6))]) (ea_cons (ee_callD L.fit (hr.mono (by decide)) ⟨ps, ro, rfl, by omega, fitOk rol ros, rfl⟩ (ea_2 (ee_var 5 rfl pr5) (ee_var 9 rfl pro5)))
    (ea_cons ((ee_all (bs := (ps.map ruleD).map (un2 li)) rfl L.fall (ee_lc (i := 19) (enc := .bool) (f := un2 li) rfl sc_law.nd (blkOk_by (N := NL) (sc := defScope slaw) (by decide +kernel)) (ei_list (ee_var 5 rfl pr5)) hzps ?_)).isd (by rw [all_un2])) (ea_cons ((ee_all (bs := (la.map PyData.int).map fun x => leNum x 6) rfl L.fall (ee_lc (i := 18) (enc := .bool) (f := fun x => leNum x 6) rfl sc_law.nd (blkOk_by (N := NL) (sc := defScope slaw) (by decide +kernel)) (ei_tup (ee_var 11 rfl pla5)) (by rw [List.length_map, lal]; show _ ≤ 16777216; omega) ?_)).isd (by rw [all_le])) ea_nil)))
      (by show 3 ≤ 16777216; decide)) G5.sub sc_law.nd fun v6 S6 H6 g6 pdue => ?_
  · intro d hd v S2 s2 pv sh' H0 C' cl fp
    obtain ⟨p, hp, rfl⟩ := List.mem_map.mp hd
    have pv : Dt K (ruleD p) v S2 := pv
    have hro := ho.2.2 p hp
    rw [un2_t]
    have pl2 : Dt K (tI li) v2 S2 := pli5.up s2
    exact ee_le (ee_callD L.ldot (hr.mono (by decide)) ⟨li, p.1, rfl, rfl, by rw [lil]; omega, dot_mulx (fun x hx => (lis x hx).2) hro.1.2⟩ (ea_2 (ee_var 10 rfl pl2) (ee_ixT (ds := [tI p.1, tI p.2]) rfl (ee_var 19 rfl pv) ee_int))) (ee_callD L.ldot (hr.mono (by decide)) ⟨li, p.2, rfl, rfl, by rw [lil]; omega, dot_mulx (fun x hx => (lis x hx).2) hro.2.2⟩ (ea_2 (ee_var 10 rfl pl2) (ee_ixT (ds := [tI p.1, tI p.2]) rfl (ee_var 19 rfl pv) ee_int)))
  · intro d hd v S2 s2 pv sh' H0 C' cl fp
    obtain ⟨i, hi, rfl⟩ := List.mem_map.mp hd
    have pv : Dt K (.int i) v S2 := pv
    exact ee_le (ee_var 18 rfl pv) ee_int
  have G6 := G5.trans g6
  have pm6 : SchP K C z ps vmade S6 := Mn.up G6.st hmade
  have pro6 := pro5.up g6.st
  have pli6 := pli5.up g6.st
  have pla6 := pla5.up g6.st
  have liD : isDir (tI li) n = true := isDir_t lil fun x hx => (lis x hx).1
  -- the first question
  refine hs_ifN ((et_not (et_val (ee_callD (L.same 1) (hr.mono (by decide)) ⟨_, rfl, bd3 (keepsI ps ro) (fitsI ps li) (la.all fun i => decide (i ≤ 6)), rfl⟩ (ea_2 (ee_lst (ds := [.bool (keepsI ps ro), .bool (fitsI ps li), .bool (la.all fun i => decide (i ≤ 6))]) (ea_cons (ee_inO L.cont (hr.mono (by decide)) (ee_var 9 rfl pro6) (ee_var (P := SchP K C z ps) 7 rfl pm6) SchP.ins (cmp_spO (b := keepsI ps ro) ⟨z, ps, tI ro, rfl, ho, rfl, ?c1, ?c2⟩))
      (ea_cons ((ee_meth L.fits L.cls (hr.mono (by decide)) (ee_var (P := SchP K C z ps) 7 rfl pm6) SchP.insP (ea_1 (ee_var 10 rfl pli6)) (spO_E (F := FSfits C K) (P0 := SchP K C z ps) (ds := [tI li]) (d := .bool (fitsI ps li)) ⟨z, ps, tI li, rfl, ho, rfl, ?f1, ?f2⟩))) (ea_cons (ee_meth L.expo L.cls (hr.mono (by decide)) (ee_var (P := SchP K C z ps) 7 rfl pm6) SchP.insP (ea_1 (ee_var 11 rfl pla6)) (spO_E (F := Fsch_isExp C) (P0 := SchP K C z ps) (ds := [tI la]) (d := .bool (la.all fun i => decide (i ≤ 6))) ⟨_, _, SchP.wid, rfl, ?e1⟩)) ea_nil)))
        (by show 3 ≤ 16777216; decide)) (ee_var 14 rfl pdue))))).is (by rfl)) G6.sub fun S7 H7 g7 => ?go
  case c1 => unfold SmallD; rw [unI_tI]; exact ros
  case c2 => rw [isRow_t (rol.trans hn.symm) rpos, Bool.true_and, unI_tI]
  case f1 => unfold SmallD; rw [unI_tI]; exact fun x hx => (lis x hx).2
  case f2 => rw [fits_due2 ho (tI li) hn, liD, Bool.true_and, unI_tI]
  case e1 => rw [isExp_dir, hn, isDir_t lal las, Bool.true_and, unI_tI]
  have G7 := G6.trans g7
  have pod7 : Dt K od v4 S7 := pod.up (g5.st.trans (g6.st.trans g7.st))
  have pri7 : Dt K (.bool (isDir od n)) v5 S7 := pri.up (g6.st.trans g7.st)
  have pr7 : Dt K (.list (ps.map ruleD)) vr S7 := hrl.up G7.st
  -- due, of the odd thing
  have okAll : ∀ {ns : List Int} {S8 : Hp}, ns.length = n → Dt K (tI ns) v4 S8 → (ns.map PyData.int).length ≤ sizeLine := fun {ns S8} hl _ => by rw [List.length_map, hl]; show _ ≤ 16777216; omega
  refine hs_set (i := 14) (P := Dt K (.list [.bool (isDir od n && ((unI od).all (fun i => decide (0 < i)) && keepsI ps (unI od))), .bool (isDir od n && fitsI ps (unI od))])) (ee_lst (ds := [.bool (isDir od n && ((unI od).all (fun i => decide (0 < i)) && keepsI ps (unI od))), .bool (isDir od n && fitsI ps (unI od))])
    (ea_2 (ee_and (ee_var 13 rfl pri7) fun hR => ?_) (ee_and (ee_var 13 rfl pri7) fun hR => ?_)) (by show 2 ≤ 16777216; decide)) G7.sub sc_law.nd fun v8 S8 H8 g8 pdue2 => ?_
  · obtain ⟨ns, rfl, hl, h0⟩ := dir_ints hR
    have hl : ns.length = n := by omega
    unfold SmallD at ods
    rw [unI_tI] at ods ⊢
    refine ee_and ((ee_all (bs := (ns.map PyData.int).map gtNum) rfl L.fall (ee_lc (i := 18) (enc := .bool) (f := gtNum) rfl sc_law.nd (blkOk_by (N := NL) (sc := defScope slaw) (by decide +kernel)) (ei_tup (ee_var 12 rfl pod7)) (okAll hl pod7) ?_)).isd (by rw [all_gt])) fun _ => ee_one (ee_callD L.fit (hr.mono (by decide)) ⟨ps, ns, rfl, by omega, fitOk hl ods, rfl⟩ (ea_2 (ee_var 5 rfl pr7) (ee_var 12 rfl pod7)))
    intro d hd v S2 s2 pv sh' H0 C' cl fp
    obtain ⟨i, hi, rfl⟩ := List.mem_map.mp hd
    have pv : Dt K (.int i) v S2 := pv
    exact ee_gt (ee_var 18 rfl pv) ee_int
  · obtain ⟨ns, rfl, hl, h0⟩ := dir_ints hR
    have hl : ns.length = n := by omega
    unfold SmallD at ods
    rw [unI_tI] at ods ⊢
    refine ee_one ((ee_all (bs := (ps.map ruleD).map (un2 ns)) rfl L.fall (ee_lc (i := 19) (enc := .bool) (f := un2 ns) rfl sc_law.nd (blkOk_by (N := NL) (sc := defScope slaw) (by decide +kernel)) (ei_list (ee_var 5 rfl pr7)) hzps ?_)).isd (by rw [all_un2]))
    intro d hd v S2 s2 pv sh' H0 C' cl fp
    obtain ⟨p, hp, rfl⟩ := List.mem_map.mp hd
    have pv : Dt K (ruleD p) v S2 := pv
    have hro := ho.2.2 p hp
    rw [un2_t]
    have pl2 : Dt K (tI ns) v4 S2 := pod7.up s2
    exact ee_le (ee_callD L.ldot (hr.mono (by decide)) ⟨ns, p.1, rfl, rfl, by rw [hl]; omega, dot_mulx ods hro.1.2⟩ (ea_2 (ee_var 12 rfl pl2) (ee_ixT (ds := [tI p.1, tI p.2]) rfl (ee_var 19 rfl pv) ee_int))) (ee_callD L.ldot (hr.mono (by decide)) ⟨ns, p.2, rfl, rfl, by rw [hl]; omega, dot_mulx ods hro.2.2⟩ (ea_2 (ee_var 12 rfl pl2) (ee_ixT (ds := [tI p.1, tI p.2]) rfl (ee_var 19 rfl pv) ee_int)))
  have G8 := G7.trans g8
  have pm8 : SchP K C z ps vmade S8 := Mn.up G8.st hmade
  have pod8 := pod7.up g8.st
  have pri8 := pri7.up g8.st
  -- the second question
  refine hs_ifN ((et_not (et_val (ee_callD (L.same 1) (hr.mono (by decide)) ⟨_, rfl, bd3 (isDir od n && ((unI od).all (fun i => decide (0 < i)) && keepsI ps (unI od))) (isDir od n && fitsI ps (unI od)) (isDir od n && (unI od).all fun i => decide (i ≤ 6)), rfl⟩ (ea_2 (ee_lst (ds := [.bool (isDir od n && ((unI od).all (fun i => decide (0 < i)) && keepsI ps (unI od))), .bool (isDir od n && fitsI ps (unI od)), .bool (isDir od n && (unI od).all fun i => decide (i ≤ 6))])
      (ea_cons (ee_inO L.cont (hr.mono (by decide)) (ee_var 12 rfl pod8) (ee_var (P := SchP K C z ps) 7 rfl pm8) SchP.ins (cmp_spO (b := isDir od n && ((unI od).all (fun i => decide (0 < i)) && keepsI ps (unI od))) ⟨z, ps, od, rfl, ho, rfl, ods, ?c3⟩))
      (ea_cons ((ee_methK L.fitsK L.cls (hr.mono (by decide)) (ee_var (P := SchP K C z ps) 7 rfl pm8) SchP.insP (ee_var 12 rfl pod8) (spO_E (F := FSfits C K) (P0 := SchP K C z ps) (ds := [od]) (d := .bool (isDir od n && fitsI ps (unI od))) ⟨z, ps, od, rfl, ho, rfl, ods, ?f3⟩))) (ea_cons (ee_meth L.expo L.cls (hr.mono (by decide)) (ee_var (P := SchP K C z ps) 7 rfl pm8) SchP.insP (ea_1 (ee_var 12 rfl pod8)) (spO_E (F := Fsch_isExp C) (P0 := SchP K C z ps) (ds := [od]) (d := .bool (isDir od n && (unI od).all fun i => decide (i ≤ 6))) ⟨_, _, SchP.wid, rfl, ?e3⟩)) ea_nil)))
        (by show 3 ≤ 16777216; decide)) (ee_catL (ds1 := [.bool (isDir od n && ((unI od).all (fun i => decide (0 < i)) && keepsI ps (unI od))), .bool (isDir od n && fitsI ps (unI od))]) (ds2 := [.bool (isDir od n && (unI od).all fun i => decide (i ≤ 6))]) (by show 2 + 1 ≤ 16777216; decide) (ee_var 14 rfl pdue2) (ee_lst (ds := [.bool (isDir od n && (unI od).all fun i => decide (i ≤ 6))]) (ea_1 (ee_and (ee_var 13 rfl pri8) fun hR => ?r3)) (by show 1 ≤ 16777216; decide))))))).is (by rfl)) G8.sub fun S9 H9 g9 => hs_nil ?go2
  case c3 => rw [isRow_dir, hn, Bool.and_assoc]
  case f3 => rw [fits_due2 ho od hn]
  case e3 => rw [isExp_dir, hn]
  case r3 =>
    obtain ⟨ns, rfl, hl, h0⟩ := dir_ints hR
    have hl : ns.length = n := by omega
    rw [unI_tI]
    refine ee_one ((ee_all (bs := (ns.map PyData.int).map fun x => leNum x 6) rfl L.fall (ee_lc (i := 18) (enc := .bool) (f := fun x => leNum x 6) rfl sc_law.nd (blkOk_by (N := NL) (sc := defScope slaw) (by decide +kernel)) (ei_tup (ee_var 12 rfl pod8)) (okAll hl pod8) ?_)).isd (by rw [all_le]))
    intro d hd v S2 s2 pv sh' H0 C' cl fp
    obtain ⟨i, hi, rfl⟩ := List.mem_map.mp hd
    have pv : Dt K (.int i) v S2 := pv
    exact ee_le (ee_var 18 rfl pv) ee_int
  exact nx _ S9 H9 (G8.trans g9) ⟨_, _, _, _, _, _, _, _, _, _, _, _, rfl⟩
end
theorem cols_list (a st : Int) (n : Nat) : (cols a st n).cps.toList = (List.range n).map (colCode a st) := by unfold cols; simp
theorem col_ok {a st : Int} (h : stepOk st) {n : Nat} (h1 : 1 ≤ n) (h3 : n ≤ 3) : ColOk (cols a st n) := by
  refine ⟨?_, by rw [cols_list]; exact cols_nodup h h3, by rw [cols_size]; exact h1, by rw [cols_size]; exact h3, fun c hc => ?_⟩
  · rw [← Array.all_toList, cols_list, List.all_eq_true]
    intro c hc
    obtain ⟨i, _, rfl⟩ := List.mem_map.mp hc
    have := col_range a st i
    exact decide_eq_true (by omega)
  · rw [cols_list] at hc
    obtain ⟨i, _, rfl⟩ := List.mem_map.mp hc
    exact col_range a st i
theorem rev_size (z : Str) : (revS z).cps.size = z.cps.size := by unfold revS; simp
theorem rev_ok {z : Str} (h : ColOk z) : ColOk (revS z) := by
  obtain ⟨h1, h2, h3, h4, h5⟩ := h
  have e : (revS z).cps.toList = z.cps.toList.reverse := by unfold revS; simp
  refine ⟨?_, by rw [e]; exact (List.reverse_perm _).nodup_iff.mpr h2, by rw [rev_size]; exact h3, by rw [rev_size]; exact h4, fun c hc => ?_⟩
  · rw [← Array.all_toList] at h1 ⊢
    rw [e, List.all_reverse]
    exact h1
  · rw [e] at hc
    exact h5 c (List.mem_reverse.mp hc)
theorem rev_eq {z : Str} (h : ColOk z) : decide (revS z = z) = decide (z.cps.size = 1) := by
  obtain ⟨_, h2, h3, h4, _⟩ := h
  obtain ⟨⟨l⟩⟩ := z
  match l, h2, h3, h4 with
  | [], _, h3, _ => simp at h3
  | [a], _, _, _ => exact (decide_eq_true (show revS ⟨⟨[a]⟩⟩ = (⟨⟨[a]⟩⟩ : Str) from rfl)).trans rfl
  | [a, b], h2, _, _ =>
    have hne : a ≠ b := by simp at h2; exact h2
    have : ¬ (revS ⟨⟨[a, b]⟩⟩ = (⟨⟨[a, b]⟩⟩ : Str)) := fun e => by
      unfold revS at e
      injection e with e
      injection e with e
      simp at e
      exact hne e.2
    rw [decide_eq_false this]; rfl
  | [a, b, c], h2, _, _ =>
    have hne : a ≠ c := by simp at h2; exact h2.1.2
    have : ¬ (revS ⟨⟨[a, b, c]⟩⟩ = (⟨⟨[a, b, c]⟩⟩ : Str)) := fun e => by
      unfold revS at e
      injection e with e
      injection e with e
      simp at e
      exact hne e.2
    rw [decide_eq_false this]; rfl
  | _ :: _ :: _ :: _ :: _, _, _, h4 => simp at h4
theorem flat_rep (k : Int) (n : Nat) : PyData.tuple (List.replicate n [PyData.int k]).flatten = tI (List.replicate n k) := by
  unfold tI
  congr 1
  induction n with
  | zero => rfl
  | succ n ih => rw [List.replicate_succ, List.flatten_cons, ih, List.replicate_succ, List.map_cons]; rfl
theorem mono_ones : ∀ (es : List Int) (n : Nat), monoI es (List.replicate n 1) = 1
  | [], 0 => rfl
  | [], n + 1 => rfl
  | _ :: _, 0 => rfl
  | e :: es, n + 1 => by
    rw [List.replicate_succ]
    show (1 : Int) ^ e.toNat * monoI es (List.replicate n 1) = 1
    rw [mono_ones es n, Int.one_pow, Int.mul_one]
theorem keeps_ones (ps : Rules) (n : Nat) : keepsI ps (List.replicate n 1) = true := by
  unfold keepsI
  rw [List.all_eq_true]
  intro p _
  rw [mono_ones, mono_ones]
  rfl
theorem dot_zeros : ∀ (n : Nat) (l : List Int), dotI (List.replicate n 0) l = 0
  | 0, _ => by unfold dotI; simp
  | n + 1, [] => by unfold dotI; simp
  | n + 1, x :: l => by
    have ih := dot_zeros n l
    unfold dotI at ih ⊢
    rw [List.replicate_succ, List.zip_cons_cons, List.map_cons, List.sum_cons, ih, Int.zero_mul]
    rfl
theorem fits_zeros (ps : Rules) (n : Nat) : fitsI ps (List.replicate n 0) = true := by
  unfold fitsI
  rw [List.all_eq_true]
  intro p _
  rw [dot_zeros, dot_zeros]
  rfl
theorem rep_small {k : Int} {n : Nat} (h : k.natAbs ≤ 1000) : SmallD (tI (List.replicate n k)) := by
  unfold SmallD
  rw [unI_tI]
  intro i hi
  rw [List.eq_of_mem_replicate hi]
  exact h
def repS (z : Str) (k : Nat) : Str := (["Schema(", z, ", ", ((toString (k : Int) : String) : Str), " facts)"] : List Str).foldl (· ++ ·) Str.empty
theorem repS_eq (z : Str) (k : Nat) : (((("Schema(" : Str) ++ z) ++ ", ") ++ ((toString (k : Int) : String) : Str)) ++ " facts)" = repS z k := rfl
theorem bd_ints (n : Nat) (l : List Int) : ∀ x ∈ l.map PyData.int, Bd n x := fun x hx => by
  obtain ⟨i, _, rfl⟩ := List.mem_map.mp hx
  cases n <;> trivial
theorem bd_rule (p : List Int × List Int) : Bd 2 (ruleD p) := fun x hx => by
  simp only [List.mem_cons, List.not_mem_nil, or_false] at hx
  rcases hx with rfl | rfl
  · exact bd_ints 0 p.1
  · exact bd_ints 0 p.2
theorem bd_first (z r : Str) (n : Int) (ps : Rules) : Bd 4 (.list [.str z, .int n, .list (ps.map ruleD), .str r, .int 4]) := fun x hx => by
  simp only [List.mem_cons, List.not_mem_nil, or_false] at hx
  rcases hx with rfl | rfl | rfl | rfl | rfl
  · trivial
  · trivial
  · intro y hy
    obtain ⟨p, _, rfl⟩ := List.mem_map.mp hy
    exact bd_rule p
  · trivial
  · trivial
theorem cut1 (ps : Rules) : Z.cutD (ps.map ruleD) (some 1) none = ps.tail.map ruleD := by
  cases ps with
  | nil => rfl
  | cons p r =>
    unfold Z.cutD
    have e1 : HT.sIx ((p :: r).map ruleD).length 0 (some 1) = 1 := (HT.sIx_nat _ _ 1).trans (by simp)
    rw [e1, HT.sIx_none]
    show ((ruleD p :: r.map ruleD).drop 1).take ((ruleD p :: r.map ruleD).length - 1) = r.map ruleD
    rw [List.drop_one, List.tail_cons, List.take_of_length_le (by simp)]
theorem cutTo1 (ps : Rules) : Z.cutD (ps.map ruleD) none (some 1) = (ps.take 1).map ruleD := by
  unfold Z.cutD
  cases ps with
  | nil => rfl
  | cons p r =>
    have e1 : HT.sIx ((p :: r).map ruleD).length ((p :: r).map ruleD).length (some 1) = 1 := (HT.sIx_nat _ _ 1).trans (by simp)
    rw [e1, HT.sIx_none]
    simp
theorem isDt_ne (ps : Rules) : PyData.eqv (.list (ps.map ruleD)) (.list []) = decide (ps = []) := by
  cases ps with
  | nil => rfl
  | cons p r => rfl
theorem atI0 {α : Type} (a : α) (l : List α) : atI (a :: l) 0 = some a := by
  unfold atI ixN
  rw [if_pos (by decide), if_pos (by rw [List.length_cons]; omega)]
  rfl
def outerBody : List Stmt := forBody (stAt (defBody slaw) 1)
def OSt (vs vb : V) (σ : L2.St) : Prop := ∃ a2 a3 a4 a5 a6 a7 a8 a9 a10 a11 a12 a13 a14 a15 a16 a17 a18 a19, σ = [some vs, some vb, a2, a3, a4, a5, a6, a7, a8, a9, a10, a11, a12, a13, a14, a15, a16, a17, a18, a19]
def OStT (vs vb vt : V) (σ : L2.St) : Prop := ∃ a3 a4 a5 a6 a7 a8 a9 a10 a11 a12 a13 a14 a15 a16 a17 a18 a19, σ = [some vs, some vb, some vt, a3, a4, a5, a6, a7, a8, a9, a10, a11, a12, a13, a14, a15, a16, a17, a18, a19]
theorem cmp_eqS {K : PySem.W.Frag} {C : Addr} {S : Hp} {z1 z2 : Str} {p1 p2 : Rules} {b : Bool} (hb : b = (decide (z1 = z2) && eqvR p1 p2)) : CmpP (spEqS K C) S (SchP K C z1 p1) (SchP K C z2 p2) b := fun v w S1 H1 _ s pv pw Q q =>
  ⟨S1, v, w, b, rfl, s, ⟨z1, p1, pv, .inl ⟨z2, p2, pw, hb⟩⟩, q⟩
theorem cmp_eqT {K : PySem.W.Frag} {C : Addr} {S : Hp} {z1 y : Str} {p1 : Rules} : CmpP (spEqS K C) S (SchP K C z1 p1) (Dt K (.str y)) false := fun v w S1 H1 _ s pv pw Q q =>
  ⟨S1, v, w, false, rfl, s, ⟨z1, p1, pv, .inr ⟨y, pw.str_inv, rfl⟩⟩, q⟩
theorem notC_s {K : PySem.W.Frag} {C : Addr} {z : Str} {ps : Rules} : ∀ w S1, SchP K C z ps w S1 → NotC K C w S1 := fun w S1 h => by
  obtain ⟨a, dx, fs, e, h⟩ := SchP.ins w S1 h
  exact ⟨.inl ⟨a, dx, fs, e, h⟩⟩
section
variable {C : Addr} {cdv : Value} {A : Around} {outer : List Env} {sh : Shared} {H0 : Hp} {E : XK}
theorem law_outer (L : LE P w K mg base C) (hsub : PySem.W.subIn K (.type "str") (.ref C) = some false) (hr : Room 10 (LX P w K mg base f cdv A outer sh H0 E).A) {vs vb vt : V} {S H : Hp} {σ : L2.St} {D : Ends} (s : Same S H) (hb : BX vb S) (hσ : OStT vs vb vt σ) (nx : ∀ σ' S' H', Gr S H S' H' → OSt vs vb σ' → D.nx σ' H') : HS (LX P w K mg base f cdv A outer sh H0 E) D outerBody σ H := by
  obtain ⟨a3, a4, a5, a6, a7, a8, a9, a10, a11, a12, a13, a14, a15, a16, a17, a18, a19, rfl⟩ := hσ
  -- many
  refine hs_set (i := 3) (P := Ex K fun d => ∃ n : Nat, d = .int n ∧ 1 ≤ n ∧ n ≤ 3) ((ee_addE (F := fun i => i = 1) (G := fun i => 0 ≤ i ∧ i < 3) (ee_int.ex ⟨1, rfl, rfl⟩) (ee_callBx L.take (hr.mono (by decide)) ⟨3, rfl, by decide, by decide, rfl⟩ (ea_2 (ee_var 1 rfl hb) ee_int))).exi fun d ⟨i, e, x, y, hx, hy, hi⟩ => ⟨(1 + y).toNat, by rw [e]; congr 1; omega, by omega, by omega⟩) s sc_law.nd fun v3 S1 H1 g1 pm => ?_
  obtain ⟨_, ⟨n, rfl, n1, n3⟩, pm⟩ := pm
  -- letters, rules
  refine hs_par (i := 4) (j := 5) (Pa := Ex K fun d => ∃ a st : Int, d = .str (cols a st n) ∧ stepOk st) (Pb := Ex K fun d => ∃ ps : Rules, d = .list (ps.map ruleD) ∧ (ps.length : Int) ≤ 4 ∧ ∀ p ∈ ps, (p.1.length = n ∧ ∀ x ∈ p.1, 0 ≤ x ∧ x ≤ 3) ∧ (p.2.length = n ∧ ∀ x ∈ p.2, 0 ≤ x ∧ x ≤ 3)) rfl sc_law.nd
    (ee_callBx L.letters (hr.mono (by decide)) ⟨n, rfl, by omega, rfl⟩ (ea_2 (ee_var 1 rfl (Mn.up g1.st hb)) (ee_var 3 rfl pm))) (ee_callBx L.someF (hr.mono (by decide)) ⟨n, 3, 4, rfl, by omega, by decide, by decide, by decide, by decide, rfl⟩ (ea_cons (ee_var 1 rfl (Mn.up g1.st hb)) (ea_cons (ee_var 3 rfl pm) (ea_2 ee_int ee_int)))) g1.sub rfl fun v4 v5 S2 H2 g2 p4 p5 => ?_
  obtain ⟨_, ⟨a, st, rfl, hst⟩, p4⟩ := p4
  obtain ⟨_, ⟨ps, rfl, hps, hpr⟩, p5⟩ := p5
  have hcol := col_ok (a := a) hst n1 n3
  have hn : (cols a st n).cps.size = n := cols_size a st n
  generalize cols a st n = z at p4 hcol hn
  obtain rfl := p4.str_inv
  have ho : SchOk z ps := ⟨hcol, by omega, fun p hp => by
    obtain ⟨⟨h1, h2⟩, h3, h4⟩ := hpr p hp
    rw [hn]
    exact ⟨⟨h1, fun x hx => ⟨(h2 x hx).1, by have := (h2 x hx).2; omega⟩⟩, h3, fun x hx => ⟨(h4 x hx).1, by have := (h4 x hx).2; omega⟩⟩⟩
  have G2 := g1.trans g2
  -- handed
  refine hs_set (i := 6) (ee_listN L.flist (.inl rfl) (ee_var 5 rfl p5)) G2.sub sc_law.nd fun v6 S3 H3 g3 pn => ?_
  obtain ⟨l, xs, rfl, hl0, hl1, hlx, hlz⟩ := pn
  have hH2 : H2 l = none := Gr.isnew g3 hl0 hl1
  have hHb : H l = none := by
    cases e : H l with
    | none => rfl
    | some u => have := G2.hh _ _ e; rw [hH2] at this; cases this
  have G3 := G2.trans g3
  -- made
  refine hs_set (i := 7) (ee_mk2 L.mkS (hr.mono (by decide)) L.gS ho (.inl rfl) (ee_var 4 rfl (.str z)) (ee_var 6 rfl (Dt.lst_mk hl1 hlx hlz))) G3.sub sc_law.nd fun v7 S4 H4 g4 pmade => ?_
  obtain ⟨l', hl', a', dx', ys, rfl, ha', hl'1, hys, hyz⟩ := pmade
  have G4 := G3.trans g4
  -- clear
  refine hs_clear (lp := l) (ee_var 6 rfl rfl) G4.sub (g4.st _ _ hl1) fun S5 H5 g5 => ?_
  have G5 := G4.trans g5
  have l5 : S5 l = some (.lst xs) := g5.st _ _ (g4.st _ _ hl1)
  have G6 := Gr.cut (o := .lst []) G5 s hHb
  have s26 : Same S2 (del S5 l) := Same.cut (g3.st.trans (g4.st.trans g5.st)) hl0
  have pmade : SchP K C z ps (.ref a') (del S5 l) := by
    have e1 : a' ≠ l := fun e => by subst e; rw [g5.st _ _ ha'] at l5; cases l5
    have e2 : l' ≠ l := fun e => by subst e; rw [hl1] at hl'; cases hl'
    exact ⟨l', a', dx', ys, rfl, by rw [del_ne e1]; exact g5.st _ _ ha', by rw [del_ne e2]; exact g5.st _ _ hl'1, rules_keep (sqt_del l5 (fun _ q => nomatch q) (fun _ _ q => nomatch q)) (hys.up g5.st), hyz⟩
  have pm6 : Dt K (.int n) v3 (del S5 l) := pm.up (g2.st.trans s26)
  have p56 : Dt K (.list (ps.map ruleD)) v5 (del S5 l) := p5.up s26
  generalize del S5 l = S6 at G6 pmade pm6 p56
  generalize upd H5 l (.lst []) = H6 at G6
  obtain ⟨mc, t, cr, cv⟩ := L.most
  have hz : z.length ≤ 3 := by have : z.length = z.cps.size := rfl; omega
  have hps4 := ho.2.1
  have hlog : ((ps.length : Nat) : Int).natAbs.log2 < 1920 := by
    have : ((ps.length : Nat) : Int).natAbs = ps.length := by omega
    rw [this]
    exact Nat.lt_of_le_of_lt (Nat.log2_le_self _) (by omega)
  have hs5 : Str.length ((toString ((ps.length : Nat) : Int) : String) : Str) = 1 := by
    have key : ∀ k : Nat, k ≤ 4 → Str.length ((toString (k : Int) : String) : Str) = 1 := by decide +kernel
    exact key _ hps4
  have lapp : ∀ x y : Str, (x ++ y).length = x.length + y.length := fun x y => by
    show (x.cps ++ y.cps).size = _
    rw [Array.size_append]; rfl
  -- what it tells
  refine hs_ifN ((et_not (et_val (ee_callD (L.same 4) (hr.mono (by decide)) ⟨_, rfl, bd_first z (repS z ps.length) n ps, rfl⟩ (ea_2 (ee_lst (ds := [.str z, .int n, .list (ps.map ruleD), .str (repS z ps.length), .int 4])
    (ea_cons (ee_fld (ee_var (P := SchP K C z ps) 7 rfl pmade) SchP.cfld L.cls L.n1) (ea_cons ((ee_fld (ee_var (P := SchP K C z ps) 7 rfl pmade) SchP.wfld L.cls L.n2).isd (by rw [hn])) (ea_cons ((ee_meth0 L.facts L.cls (hr.mono (by decide)) (ee_var (P := SchP K C z ps) 7 rfl pmade) SchP.insP spFacts_E).imp fun _ _ h => h.dt)
      (ea_cons (ee_repr L.repr (hr.mono (by decide)) L.frepr (ee_var (P := SchP K C z ps) 7 rfl pmade) SchP.ins (spO_E (F := FSrepr C K) (P0 := SchP K C z ps) (ds := []) (d := .str (repS z ps.length)) ⟨z, ps, rfl, ho, rfl, rfl⟩)) (ea_cons (ee_cval (P := Dt K (.int 4)) L.gS cr cv (fun _ => .int 4)) ea_nil))))) (by show 5 ≤ 16777216; decide))
    (ee_lst (ds := [.str z, .int n, .list (ps.map ruleD), .str (repS z ps.length), .int 4]) (ea_cons (ee_var 4 rfl (.str z)) (ea_cons (ee_var 3 rfl pm6) (ea_cons (ee_var 5 rfl p56) (ea_cons ((ee_catS ?z4 (ee_catS ?z3 (ee_catS ?z2 (ee_catS ?z1 ee_str (ee_var 4 rfl (.str z))) ee_str) (ee_strOf L.fstr hlog ((ee_len L.flen rfl (ee_var 5 rfl p56)).isd (d' := .int (ps.length : Nat)) (by rw [List.length_map])))) ee_str).isd (by rw [← repS_eq])) (ea_cons ee_int ea_nil))))) (by show 5 ≤ 16777216; decide)))))).is (by rfl)) G6.sub fun S7 H7 g7 => ?go
  case z1 => show 7 + z.length ≤ 16777216; omega
  case z2 => rw [lapp]; show 7 + z.length + 2 ≤ 16777216; omega
  case z3 => rw [lapp, lapp, hs5]; show 7 + z.length + 2 + 1 ≤ 16777216; omega
  case z4 => rw [lapp, lapp, lapp, hs5]; show 7 + z.length + 2 + 1 + 7 ≤ 16777216; omega
  have G7 := G6.trans g7
  have pmade7 : SchP K C z ps (.ref a') S7 := Mn.up g7.st pmade
  -- append
  refine hs_append (ds := ps.map ruleD) (P := Dt K (.int 3)) (ee_meth0 L.facts L.cls (hr.mono (by decide)) (ee_var (P := SchP K C z ps) 7 rfl pmade7) SchP.insP spFacts_E) G7.sub (by rw [List.length_map]; omega) ee_int fun l2 xs2 v9 S8 H8 g8 h0 h1 => ?_
  have hHb2 : H l2 = none := by
    have hH7 : H7 l2 = none := Gr.isnew g8 h0 h1
    cases e : H l2 with
    | none => rfl
    | some u => have := G7.hh _ _ e; rw [hH7] at this; cases this
  have G9 := Gr.cut (o := .lst (xs2 ++ [v9])) (G7.trans g8) s hHb2
  have s79 : Same S7 (del S8 l2) := Same.cut g8.st h0
  have pmade9 : SchP K C z ps (.ref a') (del S8 l2) := Mn.up s79 pmade7
  have pm9 : Dt K (.int n) v3 (del S8 l2) := pm6.up (g7.st.trans s79)
  have p59 : Dt K (.list (ps.map ruleD)) v5 (del S8 l2) := p56.up (g7.st.trans s79)
  generalize del S8 l2 = S9 at G9 pmade9 pm9 p59
  generalize upd H8 l2 (.lst (xs2 ++ [v9])) = H9 at G9
  -- the steps
  refine hs_for (Ps := Ds K (upto 4)) (fun i σ S' => LSt vs vb vt v3 (.str z) v5 (.ref l) (.ref a') σ) PassesOwn.never rfl (ei_range (n := 4) L.frange (by decide) ee_int) G9.sub (fun S' H' g => ⟨_, _, _, _, _, _, _, _, _, _, _, _, rfl⟩) ?_ ?_
  · rintro i Pi σ1 S10 H10 x S11 H11 hP g10 ⟨b0, b1, b2, b3, b4, b5, b6, b7, b8, b9, b10, b11, rfl⟩ g11 px
    have G11 := (G9.trans g10).trans g11
    have s911 := g10.st.trans g11.st
    refine (eg_name (i := 8) sc_law.nd rfl (Or.inl rfl)) H11 g11.sub _ ?_
    exact law_inner L hr g11.sub (Mn.up G11.st hb) (pm9.up s911) (p59.up s911) (Mn.up s911 pmade9) ho hn ⟨_, _, _, _, _, _, _, _, _, _, _, _, rfl⟩ fun σ' S' H' g hs => ⟨S', g, hs⟩
  · rintro σ1 S10 H10 g10 ⟨b0, b1, b2, b3, b4, b5, b6, b7, b8, b9, b10, b11, rfl⟩
    have G10 := G9.trans g10
    have pmade10 : SchP K C z ps (.ref a') S10 := Mn.up g10.st pmade9
    have pm10 := pm9.up g10.st
    have p510 := p59.up g10.st
    have hone : PyData.tuple (List.replicate n [PyData.int 1]).flatten = tI (List.replicate n 1) := flat_rep 1 n
    have hzero : PyData.tuple (List.replicate n [PyData.int 0]).flatten = tI (List.replicate n 0) := flat_rep 0 n
    -- ones and zeros
    refine hs_ifN ((et_w (ew_or (et_not (et_inO L.cont (bo := true) (hr.mono (by decide)) ((ee_repT (ds := [.int 1]) n1 (by omega) (by show 1 ≤ 1000; decide) (by simp) (ee_tup (ds := [.int 1]) (ea_1 ee_int)) (ee_var 3 rfl pm10)).isd hone) (ee_var (P := SchP K C z ps) 7 rfl pmade10) SchP.ins (cmp_spO ⟨z, ps, tI (List.replicate n 1), rfl, ho, rfl, rep_small (by decide), ?c1⟩))) fun _ =>
      ew_or1 (et_not (et_val (ee_meth L.fits L.cls (hr.mono (by decide)) (ee_var (P := SchP K C z ps) 7 rfl pmade10) SchP.insP (ea_1 ((ee_repT (ds := [.int 0]) n1 (by omega) (by show 1 ≤ 1000; decide) (by simp) (ee_tup (ds := [.int 0]) (ea_1 ee_int)) (ee_var 3 rfl pm10)).isd hzero)) (spO_E (F := FSfits C K) (P0 := SchP K C z ps) (ds := [tI (List.replicate n 0)]) (d := .bool true) ⟨z, ps, tI (List.replicate n 0), rfl, ho, rfl, rep_small (by decide), ?f1⟩)))))).is (by rfl)) G10.sub fun S11 H11 g11 => ?go2
    case c1 =>
      rw [unI_tI, keeps_ones, Bool.and_true, hn, isRow_t (by simp) (fun x hx => by rw [List.eq_of_mem_replicate hx]; decide)]
    case f1 =>
      rw [fits_due2 ho _ hn, unI_tI, fits_zeros, Bool.and_true, isDir_t (by simp) (fun x hx => by rw [List.eq_of_mem_replicate hx]; decide)]
    have G11 := G10.trans g11
    have pmade11 : SchP K C z ps (.ref a') S11 := Mn.up g11.st pmade10
    have pm11 := pm10.up g11.st
    have p511 := p510.up g11.st
    have hot : SchOk z ps.tail := ⟨hcol, by rw [List.length_tail]; omega, fun p hp => ho.2.2 p (List.mem_of_mem_tail hp)⟩
    -- two more
    refine hs_par (i := 15) (j := 16) (Pa := SchP K C z ps) (Pb := SchP K C z ps.tail) rfl sc_law.nd ((ee_mkK L.mkS (hr.mono (by decide)) L.gS ho (.inr rfl) (ee_tupleOf L.ftuple (ee_var 5 rfl p511)) (ee_var 4 rfl (.str z))).imp fun _ _ h => newR_sch h)
      ((ee_mk2 L.mkS (hr.mono (by decide)) L.gS hot (d := .list (Z.cutD (ps.map ruleD) (some 1) none)) (.inl (by rw [cut1])) (ee_var 4 rfl (.str z)) (ee_slL (ee_var 5 rfl p511) (eo_some ee_int) eo_none)).imp fun _ _ h => newR_sch h) G11.sub rfl fun v15 v16 S12 H12 g12 p15 p16 => ?_
    have G12 := G11.trans g12
    have pmade12 : SchP K C z ps (.ref a') S12 := Mn.up g12.st pmade11
    have pm12 := pm11.up g12.st
    have p512 := p511.up g12.st
    have hor : SchOk (revS z) ps := ⟨rev_ok hcol, ho.2.1, fun p hp => by rw [rev_size]; exact ho.2.2 p hp⟩
    have shn : SeqAt.shaped (.list []) = true := by decide +kernel
    have shb : ∀ b : Bool, SeqAt.shaped (.bool b) = true := fun b => by cases b <;> decide +kernel
    have bb : ∀ b : Bool, (!PyData.eqv (.bool b) (.bool b)) = false := fun b => by cases b <;> rfl
    have nStr : ∀ w S1, Dt K (.str z) w S1 → NotC K C w S1 := fun w S1 h => ⟨.inr ⟨⟨z, h.str_inv⟩, hsub⟩⟩
    -- who is alike
    refine hs_ifN ((et_w (ew_or (et_neO L.eqM L.ne (bo := true) (hr.mono (by decide)) (ee_var (P := SchP K C z ps) 15 rfl p15) (ee_var (P := SchP K C z ps) 7 rfl pmade12) SchP.ins notC_s (cmp_eqS (by rw [eqvR_refl]; simp))) fun _ =>
      ew_or (et_ne hr (shb _) (shb _) (ee_eqO L.eqM (bo := decide (ps = [])) (hr.mono (by decide)) (ee_var (P := SchP K C z ps.tail) 16 rfl p16) (ee_var (P := SchP K C z ps) 7 rfl pmade12) SchP.ins notC_s (cmp_eqS ?q1)) ((ee_eq hr (shaped_rules ps) shn (ee_var 5 rfl p512) (ee_lst (ds := []) ea_nil)).isd (d' := .bool (decide (ps = []))) (by rw [isDt_ne]))) fun _ =>
      ew_or (et_eqO L.eqM (bo := false) (hr.mono (by decide)) (ee_var (P := SchP K C z ps) 7 rfl pmade12) (ee_var (P := Dt K (.str z)) 4 rfl (.str z)) SchP.ins nStr cmp_eqT) fun _ =>
      ew_or1 (et_ne hr (shb _) (shb _) (ee_eqO L.eqM (bo := decide (n = 1)) (hr.mono (by decide)) ((ee_mk2 L.mkS (hr.mono (by decide)) L.gS hor (.inl rfl) (ee_revS (ee_var 4 rfl (.str z)) (by omega)) (ee_var 5 rfl p512)).imp fun _ _ h => newR_sch h) (ee_var (P := SchP K C z ps) 7 rfl pmade12) SchP.ins notC_s (cmp_eqS ?q2)) ((ee_eqI (ee_var 3 rfl pm12) ee_int).isd (d' := .bool (decide (n = 1))) (by congr 1; exact decide_eq_decide.mpr (by omega)))))).is (by rw [bb, bb]; rfl)) G12.sub fun S13 H13 g13 => ?go3
    case q1 =>
      cases ps with
      | nil => rw [show ([] : Rules).tail = [] from rfl, eqvR_refl]; simp
      | cons p r => rw [show (p :: r).tail = r from rfl, eqvR_len (by simp), Bool.and_false]; simp
    case q2 => rw [eqvR_refl, Bool.and_true, rev_eq hcol, hn]
    have G13 := G12.trans g13
    have pmade13 : SchP K C z ps (.ref a') S13 := Mn.up g13.st pmade12
    have p513 := p512.up g13.st
    have ho0 : SchOk z (ps ++ []) := by rw [List.append_nil]; exact ho
    -- with more facts
    refine hs_ifN ((et_w (ew_or (et_neO L.eqM L.ne (bo := true) (hr.mono (by decide)) (ee_methS0 L.withF L.cls (hr.mono (by decide)) (ee_var (P := SchP K C z ps) 7 rfl pmade13) SchP.insP (spWith_E (qs := []) ho0)) (ee_var (P := SchP K C z ps) 7 rfl pmade13) SchP.ins notC_s (cmp_eqS (by rw [List.append_nil, eqvR_refl]; simp))) fun _ =>
      ew_or1 (et_w (ew_and (k2 := false) (et_ne hr (shaped_rules ps) shn (ee_var 5 rfl p513) (ee_lst (ds := []) ea_nil)) fun h => ew_and1 ?q3)))).is (by rw [Bool.and_false]; rfl)) G13.sub fun S14 H14 g14 => hs_nil ?go4
    case q3 =>
      cases ps with
      | nil => exact absurd h (by simp [PyData.eqv, PyData.eqvAll])
      | cons p r =>
        have ho1 : SchOk z ([] ++ [p]) := ⟨hcol, (show 1 ≤ 4 by decide), fun q hq => by
          rw [List.nil_append, List.mem_singleton] at hq
          subst hq
          exact ho.2.2 q (List.mem_cons_self ..)⟩
        exact et_neO L.eqM L.ne (bo := true) (hr.mono (by decide)) (ee_methS L.withF L.cls (hr.mono (by decide)) ((ee_mk1 L.mkS (hr.mono (by decide)) L.gS hcol (ee_var 4 rfl (.str z))).imp fun _ _ h => newR_sch h) SchP.insP (ea_1 (ee_ixL (ds := (p :: r).map ruleD) (d := ruleD p) (atI0 _ _) (ee_var 5 rfl p513) ee_int)) (spWith_E (ps := []) (qs := [p]) ho1))
          ((ee_mk2 L.mkS (hr.mono (by decide)) L.gS ho1 (d := .list (Z.cutD ((p :: r).map ruleD) none (some 1))) (.inl (by rw [cutTo1]; rfl)) (ee_var 4 rfl (.str z)) (ee_slL (ee_var 5 rfl p513) eo_none (eo_some ee_int))).imp fun _ _ h => newR_sch h) SchP.ins notC_s (cmp_eqS (by rw [eqvR_refl]; simp))
    exact nx _ S14 H14 (G13.trans g14) ⟨_, _, _, _, _, _, _, _, _, _, _, _, _, _, _, _, _, _, rfl⟩
end
def spLaw (K : PySem.W.Frag) : Sp := fun vs H Q _ => ∃ (a : Addr) (ns : List Int), vs = [.ref a] ∧ SqL K H a (ns.map V.int) ∧ ns.length ≤ 63 ∧ ∀ H', Q (.bl true) H'
theorem spOpen_E {K : PySem.W.Frag} : True := trivial
theorem shaped_nil : SeqAt.shaped (.list []) = true := by decide +kernel
theorem col_q : ColOk ("q" : Str) := by
  refine ⟨by decide +kernel, by decide +kernel, by decide +kernel, by decide +kernel, ?_⟩
  have : ∀ c ∈ ("q" : Str).cps.toList, 97 ≤ c ∧ c ≤ 122 := by decide +kernel
  exact this
theorem col_ab : ColOk ("ab" : Str) := by
  refine ⟨by decide +kernel, by decide +kernel, by decide +kernel, by decide +kernel, ?_⟩
  have : ∀ c ∈ ("ab" : Str).cps.toList, 97 ≤ c ∧ c ≤ 122 := by decide +kernel
  exact this
def r1 : List Int × List Int := ([1, 0], [0, 1])
def r2 : List Int × List Int := ([0, 2], [3, 0])
theorem sz_ab : ("ab" : Str).cps.size = 2 := by decide +kernel
theorem ok_ab : SchOk "ab" ([r1] ++ [r2]) := ⟨col_ab, (show 2 ≤ 4 by decide), fun p hp => by
  rw [sz_ab]
  rcases List.mem_append.mp hp with hp | hp <;> (rw [List.mem_singleton] at hp; subst hp; unfold RuleOk; decide)⟩
theorem ok_ab1 : SchOk "ab" [r1] := ⟨col_ab, (show 1 ≤ 4 by decide), fun p hp => ok_ab.2.2 p (List.mem_append_left _ hp)⟩
section
variable {C : Addr} {cdv : Value} {A : Around} {outer : List Env} {sh : Shared} {H0 : Hp} {E : XK}
theorem ok_law (F : FnT K "law" slaw f fd) (L : LE P w K mg base C) (hsub : PySem.W.subIn K (.type "str") (.ref C) = some false) : FnOk P w K mg base CX0 11 f fd ["_law_script"] (spLaw K) := by
  refine fn_hs F sc_law (fun vs H Q E h => by obtain ⟨a, ns, rfl, _⟩ := h; rfl) (fun cdv A outer sh H vs Q E hr h => ?_)
  obtain ⟨a, ns, rfl, hS, hl, q⟩ := h
  -- the box
  obtain ⟨fo, fdo, pso, G, hm, hk, hb⟩ := L.openD.ex
  refine hs_cons (ps_set (i := 1) sc_law.nd rfl (Or.inr rfl) (pe_call G (hr.mono (by decide)) rfl hm hk hb .nil pass0 (pa_cons (pv 0) pa_nil)) rfl) ?_
  refine ⟨_, rfl, ?_⟩
  refine ⟨a, ns, rfl, hS, hl, fun vb H1 sm hbx => ?_⟩
  refine hs_for (S := H1) (Ps := Ds K (upto 4)) (fun i σ S' => BX vb S' ∧ OSt (.ref a) vb σ) PassesOwn.never rfl (ei_range (n := 4) L.frange (by decide) ee_int) (Same.refl H1) (fun S' H' g => ⟨Mn.up g.st hbx, _, _, _, _, _, _, _, _, _, _, _, _, _, _, _, _, _, _, rfl⟩) ?_ ?_
  · rintro i Pi σ1 S2 H2 x S3 H3 hP g2 ⟨hb2, b2, b3, b4, b5, b6, b7, b8, b9, b10, b11, b12, b13, b14, b15, b16, b17, b18, b19, rfl⟩ g3 px
    refine (eg_name (i := 2) sc_law.nd rfl (Or.inl rfl)) H3 g3.sub _ ?_
    exact law_outer (vs := .ref a) (vb := vb) (vt := x) L hsub hr g3.sub (Mn.up g3.st hb2) ⟨_, _, _, _, _, _, _, _, _, _, _, _, _, _, _, _, _, rfl⟩ fun σ' S' H' g hs => ⟨S', g, Mn.up (g3.st.trans g.st) hb2, hs⟩
  · rintro σ1 S2 H2 g2 ⟨hb2, b2, b3, b4, b5, b6, b7, b8, b9, b10, b11, b12, b13, b14, b15, b16, b17, b18, b19, rfl⟩
    refine hs_ret (ee_and (k1 := true) (k2 := true) ((ee_eq hr (d1 := .list []) (d2 := .list []) shaped_nil shaped_nil ((ee_meth0 L.facts L.cls (hr.mono (by decide)) ((ee_mk1 L.mkS (hr.mono (by decide)) L.gS col_q ee_str).imp fun _ _ h => newR_sch h) SchP.insP spFacts_E).imp fun _ _ h => h.dt) (ee_lst (ds := []) ea_nil)).isd rfl) fun _ =>
      ee_one ((ee_eq hr (d1 := .list ([r1, r2].map ruleD)) (d2 := .list ([r1, r2].map ruleD)) (shaped_rules _) (shaped_rules _) ((ee_meth0 L.facts L.cls (hr.mono (by decide)) (ee_methS L.withF L.cls (hr.mono (by decide)) ((ee_mk2 L.mkS (hr.mono (by decide)) L.gS ok_ab1 (d := .list [ruleD r1]) (.inl rfl) ee_str
          (ee_lst (ds := [ruleD r1]) (ea_1 (ee_tup (ds := [tI r1.1, tI r1.2]) (ea_2 (ee_tup (ds := r1.1.map .int) (ea_2 ee_int ee_int)) (ee_tup (ds := r1.2.map .int) (ea_2 ee_int ee_int))))))).imp fun _ _ h => newR_sch h) SchP.insP (ea_1 (ee_tup (ds := [tI r2.1, tI r2.2]) (ea_2 (ee_tup (ds := r2.1.map .int) (ea_2 ee_int ee_int)) (ee_tup (ds := r2.2.map .int) (ea_2 ee_int ee_int))))) (spWith_E (ps := [r1]) (qs := [r2]) ok_ab)) SchP.insP spFacts_E).imp fun _ _ h => h.dt)
        (ee_lst (ds := [ruleD r1, ruleD r2]) (ea_2 (ee_tup (ds := [tI r1.1, tI r1.2]) (ea_2 (ee_tup (ds := r1.1.map .int) (ea_2 ee_int ee_int)) (ee_tup (ds := r1.2.map .int) (ea_2 ee_int ee_int)))) (ee_tup (ds := [tI r2.1, tI r2.2]) (ea_2 (ee_tup (ds := r2.1.map .int) (ea_2 ee_int ee_int)) (ee_tup (ds := r2.2.map .int) (ea_2 ee_int ee_int))))))).isd (congrArg PyData.bool (eqvR_refl [r1, r2])))) g2.sub fun v S' H' g pv => by
        cases pv
        exact q H'
end
/-! ## the head -/
def gK {α : Type} : List α → List α → List α → List α
  | us, _, [a, b] => us ++ [b, a]
  | us, _, ws => us ++ ws
theorem gK_rel {vs ds zs : List V} {us its ws : List Value} (r1 : Vals vs us) (_ : Vals ds its) (r3 : Vals zs ws) : Vals (gK vs ds zs) (gK us its ws) := by
  cases r3 with
  | nil => exact r1.append .nil
  | cons a t =>
    cases t with
    | nil => exact r1.append (.cons a .nil)
    | cons b t =>
      cases t with
      | nil => exact r1.append (.cons b (.cons a .nil))
      | cons c t => exact r1.append (.cons a (.cons b (.cons c t)))
theorem kbindsN {K : PySem.W.Frag} {x qual : Str} {params : Arguments} {body : List Stmt} {scope : Scope} {f : Addr} {fd : FuncData} {ps ks : List Str} (F : FunD K x qual params body scope [] [] f fd) (n : Nat)
    (h : ∀ (kV doc pm : Value) (an : Option Addr) (cdv ct : Value) (us ws : List Value), us.length = n → ws.length = ks.length → bindArgs (PySem.W.fnOf x qual params body scope .none kV doc pm an cdv ct) ⟨us, ks.zip ws⟩ = pure (ps.zip (us ++ ws))) : KBn K fd ps n ks (fun us ws => us ++ ws) (fun vs zs => vs ++ zs) := by
  obtain ⟨oc, od, dV, kV, doc, pm, an, cdv, ct, osl, rfl, lk, hcd, hD, hK⟩ := F.ex
  rcases hD with ⟨_, rfl⟩ | ⟨e, _⟩
  · exact ⟨fun s us ws _ l1 l2 => .of_eq (h kV doc pm an cdv ct us ws l1 l2), fun r1 r2 => r1.append r2⟩
  · exact absurd rfl e
theorem facts {P : Program} {w : World} {K : PySem.W.Frag} {h : Heap} {mg : Str → Option Value} {f : Addr} (X : K.In h) (G : h.Ns mainGlobals mg) (hfa : mg ("law" : Str) = some (.ref f)) (c0 : SaysE fa fn ex K) :
    ∃ fd : FuncData, (∀ (s : Shared) (v : Value), BindsTo s fd ⟨[v], []⟩ [("_law_script", v)]) ∧ ∀ base : Heap, K.In base → base.Ns mainGlobals mg → FnOk P w K mg base CX0 11 f fd ["_law_script"] (spLaw K) := by
  have d := c0.d
  have more := c0.more
  unfold ex at more
  simp only [Bool.and_eq_true, decide_eq_true_eq] at more
  obtain ⟨e1, e2, e3, e4, e5, e6, e7, e8, e9, e10, e11, e12⟩ := more
  have e2 := He.eqO_ok e2
  have e4 := He.eqO_ok e4
  have e6 := He.eqO_ok e6
  have e10 := He.eqO_ok e10
  have h_isinstance : mg "isinstance" = none := He.free_ok X G (d.fact 23 (f := .free "isinstance") rfl)
  have h_bool : mg "bool" = none := He.free_ok X G (d.fact 24 (f := .free "bool") rfl)
  have h_int : mg "int" = none := He.free_ok X G (d.fact 25 (f := .free "int") rfl)
  have h_str : mg "str" = none := He.free_ok X G (d.fact 26 (f := .free "str") rfl)
  have h_list : mg "list" = none := He.free_ok X G (d.fact 27 (f := .free "list") rfl)
  have h_tuple : mg "tuple" = none := He.free_ok X G (d.fact 28 (f := .free "tuple") rfl)
  have h_len : mg "len" = none := He.free_ok X G (d.fact 29 (f := .free "len") rfl)
  have h_all : mg "all" = none := He.free_ok X G (d.fact 30 (f := .free "all") rfl)
  have h_sum : mg "sum" = none := He.free_ok X G (d.fact 31 (f := .free "sum") rfl)
  have h_zip : mg "zip" = none := He.free_ok X G (d.fact 32 (f := .free "zip") rfl)
  have h_range : mg "range" = none := He.free_ok X G (d.fact 33 (f := .free "range") rfl)
  have h_set : mg "set" = none := He.free_ok X G (d.fact 34 (f := .free "set") rfl)
  have h_enumerate : mg "enumerate" = none := He.free_ok X G (d.fact 35 (f := .free "enumerate") rfl)
  have h_repr : mg "repr" = none := He.free_ok X G (d.fact 36 (f := .free "repr") rfl)
  have h_MOST : ∃ t, mg "MOST_EXPONENT" = some (.int 6 t) := He.int_ok X G (d.fact 37 (f := .int "MOST_EXPONENT" 6) rfl)
  have gS : mg "Schema" = some (.ref (He.ga K "Schema")) := He.glo_ok X G (d.fact 8 (f := .glo "Schema") rfl)
  have c : Cls K (He.ga K "Schema") := He.cls_ok (d.fact 38 (f := .cls "Schema") rfl)
  have mkr : Mk K (He.ga K "Schema") (He.ma K (He.ga K "Schema") "__init__") := He.mkr_ok (d.fact 39 (f := .mkr "Schema") rfl)
  have n1 : NoAttr K (He.ga K "Schema") "columns" := He.noat_ok (d.fact 40 (f := .noat "Schema" "columns") rfl)
  have n2 : NoAttr K (He.ga K "Schema") "width" := He.noat_ok (d.fact 41 (f := .noat "Schema" "width") rfl)
  have n3 : NoAttr K (He.ga K "Schema") "_facts" := He.noat_ok (d.fact 42 (f := .noat "Schema" "_facts") rfl)
  have m_facts : Meth K (He.ga K "Schema") "facts" (He.ma K (He.ga K "Schema") "facts") := He.meth_ok (d.fact 43 (f := .meth "Schema" "facts") rfl)
  have m_steps : Meth K (He.ga K "Schema") "steps" (He.ma K (He.ga K "Schema") "steps") := He.meth_ok (d.fact 44 (f := .meth "Schema" "steps") rfl)
  have m___contains__ : Meth K (He.ga K "Schema") "__contains__" (He.ma K (He.ga K "Schema") "__contains__") := He.meth_ok (d.fact 45 (f := .meth "Schema" "__contains__") rfl)
  have m_is_exponent : Meth K (He.ga K "Schema") "is_exponent" (He.ma K (He.ga K "Schema") "is_exponent") := He.meth_ok (d.fact 46 (f := .meth "Schema" "is_exponent") rfl)
  have m_fits : Meth K (He.ga K "Schema") "fits" (He.ma K (He.ga K "Schema") "fits") := He.meth_ok (d.fact 47 (f := .meth "Schema" "fits") rfl)
  have m_with_facts : Meth K (He.ga K "Schema") "with_facts" (He.ma K (He.ga K "Schema") "with_facts") := He.meth_ok (d.fact 48 (f := .meth "Schema" "with_facts") rfl)
  have m___eq__ : Meth K (He.ga K "Schema") "__eq__" (He.ma K (He.ga K "Schema") "__eq__") := He.meth_ok (d.fact 49 (f := .meth "Schema" "__eq__") rfl)
  have m___repr__ : Meth K (He.ga K "Schema") "__repr__" (He.ma K (He.ga K "Schema") "__repr__") := He.meth_ok (d.fact 50 (f := .meth "Schema" "__repr__") rfl)
  obtain ⟨t4, cv⟩ : ∃ t, ClX.CVal K (He.ga K "Schema") (.type "type") "MOST" (.int 4) (.int 4 t) := by
    split at e11
    · rename_i t heq
      exact ⟨t, ⟨heq, ⟨t, rfl⟩⟩⟩
    · cases e11
  have cr : ClX.CRead K (He.ga K "Schema") (.type "type") := ⟨e9, e10⟩
  have hdv : ∀ S, Dt K (.tuple []) (.ref (He.dflAt ("Schema", some "__init__") 0 K)) S := fun S => by
    split at e12
    · rename_i o1 its n sl heq
      have he : its = #[] := by simpa using e12
      subst he
      exact Dt.tup_mk (.inr ⟨_, #[], n, heq, rfl, rfl, Nat.zero_le _, .nil⟩) .nil (Nat.zero_le _)
    · cases e12
  have ne : NeC K (He.ga K "Schema") := ⟨e2, e3⟩
  have isi : IsiC K (He.ga K "Schema") := ⟨e4, e5, e6, e7, e3⟩
  obtain ⟨fd_law, F_law⟩ := d.def_ 39 (d := dlaw) rfl
  have e := hfa.symm.trans (He.glo_ok X G (d.fact 22 (f := .glo "law") rfl))
  cases e
  have b := FunD.bindsA (ps := ["_law_script"]) F_law fun _ _ _ _ _ _ us hl => match us, hl with | [_], _ => rfl
  refine ⟨fd_law, fun s v => b s [v] rfl, fun base _ _ => ?_⟩
  obtain ⟨fd_is_number, F_is_number⟩ := d.def_ 3 (d := dis_number) rfl
  have D_is_number : KD P w K mg base "is_number" 1 (spD K FisNumber) := kd_mk F_is_number (ok_is_number F_is_number h_isinstance h_int h_bool) (He.glo_ok X G (d.fact 0 (f := .glo "is_number") rfl)) (F_is_number.bindsN (fun _ _ _ _ _ _ us hl => match us, hl with | [_, _], _ => rfl))
  obtain ⟨fd_power_of, F_power_of⟩ := d.def_ 4 (d := dpower_of) rfl
  have D_power_of : KD P w K mg base "power_of" 1 (spD K Fpower_of) := kd_mk F_power_of (ok_power_of F_power_of) (He.glo_ok X G (d.fact 1 (f := .glo "power_of") rfl)) (F_power_of.bindsN (fun _ _ _ _ _ _ us hl => match us, hl with | [_, _], _ => rfl))
  obtain ⟨fd_check_columns, F_check_columns⟩ := d.def_ 5 (d := dcheck_columns) rfl
  have D_check_columns : KD P w K mg base "check_columns" 1 (spD K FchkC) := kd_mk F_check_columns (ok_check_columns F_check_columns h_isinstance h_str h_len h_set) (He.glo_ok X G (d.fact 2 (f := .glo "check_columns") rfl)) (F_check_columns.bindsN (fun _ _ _ _ _ _ us hl => match us, hl with | [_], _ => rfl))
  obtain ⟨fd_is_exponent, F_is_exponent⟩ := d.def_ 6 (d := dis_exponent) rfl
  have D_is_exponent : KD P w K mg base "is_exponent" 2 (spD K FisExp) := kd_mk F_is_exponent (ok_is_exponent F_is_exponent D_is_number h_isinstance h_tuple h_len h_all h_MOST) (He.glo_ok X G (d.fact 3 (f := .glo "is_exponent") rfl)) (F_is_exponent.bindsN (fun _ _ _ _ _ _ us hl => match us, hl with | [_, _], _ => rfl))
  have D_ies : KD P w K mg base "is_exponent_schemas" 2 (spD K FisExp) := ⟨_, _, _, ok_is_exponent F_is_exponent D_is_number h_isinstance h_tuple h_len h_all h_MOST, (He.glo_ok X G (d.fact 4 (f := .glo "is_exponent_schemas") rfl)).trans (by rw [e1]; rfl), F_is_exponent.kp, F_is_exponent.bindsN (fun _ _ _ _ _ _ us hl => match us, hl with | [_, _], _ => rfl)⟩
  obtain ⟨fd_is_direction, F_is_direction⟩ := d.def_ 7 (d := dis_direction) rfl
  have D_is_direction : KD P w K mg base "is_direction" 2 (spD K FisDir) := kd_mk F_is_direction (ok_is_direction F_is_direction D_is_number h_isinstance h_tuple h_len h_all) (He.glo_ok X G (d.fact 5 (f := .glo "is_direction") rfl)) (F_is_direction.bindsN (fun _ _ _ _ _ _ us hl => match us, hl with | [_, _], _ => rfl))
  obtain ⟨fd_dot, F_dot⟩ := d.def_ 8 (d := ddot) rfl
  have D_dot : KD P w K mg base "dot" 1 (spD K Fdot) := kd_mk F_dot (ok_dot F_dot h_sum h_zip) (He.glo_ok X G (d.fact 6 (f := .glo "dot") rfl)) (F_dot.bindsN (fun _ _ _ _ _ _ us hl => match us, hl with | [_, _], _ => rfl))
  obtain ⟨fd_monomial, F_monomial⟩ := d.def_ 9 (d := dmonomial) rfl
  have D_monomial : KD P w K mg base "monomial" 2 (spD K Fmonomial) := kd_mk F_monomial (ok_monomial F_monomial D_power_of h_zip) (He.glo_ok X G (d.fact 7 (f := .glo "monomial") rfl)) (F_monomial.bindsN (fun _ _ _ _ _ _ us hl => match us, hl with | [_, _], _ => rfl))
  obtain ⟨fd_L_open, F_L_open⟩ := d.def_ 26 (d := dL_open) rfl
  have D_L_open : KD P w K mg base "_law_open" 1 (spOpen K) := kd_mk F_L_open (ok_L_open F_L_open h_list h_len) (He.glo_ok X G (d.fact 9 (f := .glo "_law_open") rfl)) (F_L_open.bindsN (fun _ _ _ _ _ _ us hl => match us, hl with | [_], _ => rfl))
  obtain ⟨fd_L_take, F_L_take⟩ := d.def_ 27 (d := dL_take) rfl
  have D_L_take : KD P w K mg base "_law_take" 1 (spB K Ftake) := kd_mk F_L_take (ok_L_take F_L_take h_len h_int) (He.glo_ok X G (d.fact 10 (f := .glo "_law_take") rfl)) (F_L_take.bindsN (fun _ _ _ _ _ _ us hl => match us, hl with | [_, _], _ => rfl))
  obtain ⟨fd_L_one, F_L_one⟩ := d.def_ 28 (d := dL_one) rfl
  have D_L_one : KD P w K mg base "_law_one" 2 (spB K Fone) := kd_mk F_L_one (ok_L_one F_L_one D_L_take h_len) (He.glo_ok X G (d.fact 11 (f := .glo "_law_one") rfl)) (F_L_one.bindsN (fun _ _ _ _ _ _ us hl => match us, hl with | [_, _], _ => rfl))
  obtain ⟨fd_L_kind, F_L_kind⟩ := d.def_ 29 (d := dL_kind) rfl
  have D_L_kind : KD P w K mg base "_law_kind" 1 (spD K Fkind) := kd_mk F_L_kind (ok_L_kind F_L_kind h_isinstance h_bool h_int h_str h_list h_tuple) (He.glo_ok X G (d.fact 12 (f := .glo "_law_kind") rfl)) (F_L_kind.bindsN (fun _ _ _ _ _ _ us hl => match us, hl with | [_], _ => rfl))
  obtain ⟨fd_L_same, F_L_same⟩ := d.def_ 30 (d := dL_same) rfl
  have b_same := F_L_same.bindsN (ps := ["_law_found", "_law_due"]) (fun _ _ _ _ _ _ us hl => match us, hl with | [_, _], _ => rfl)
  have g_same := He.glo_ok X G (d.fact 13 (f := .glo "_law_same") rfl)
  have D_L_same : ∀ n, KD P w K mg base "_law_same" (n + 2) (spD K (Fsame n)) := fun n => kd_mk F_L_same (ok_L_same F_L_same g_same b_same D_L_kind h_len h_all h_zip n) g_same b_same
  obtain ⟨fd_L_odd, F_L_odd⟩ := d.def_ 31 (d := dL_odd) rfl
  have D_L_odd : KD P w K mg base "_law_odd" 3 (spB K Fodd) := kd_mk F_L_odd (ok_L_odd F_L_odd D_L_one) (He.glo_ok X G (d.fact 14 (f := .glo "_law_odd") rfl)) (F_L_odd.bindsN (fun _ _ _ _ _ _ us hl => match us, hl with | [_, _], _ => rfl))
  obtain ⟨fd_L_letters, F_L_letters⟩ := d.def_ 32 (d := dL_letters) rfl
  have D_L_letters : KD P w K mg base "_law_letters" 3 (spB K Fletters) := kd_mk F_L_letters (ok_L_letters F_L_letters D_L_take D_L_one h_range h_int) (He.glo_ok X G (d.fact 15 (f := .glo "_law_letters") rfl)) (F_L_letters.bindsN (fun _ _ _ _ _ _ us hl => match us, hl with | [_, _], _ => rfl))
  obtain ⟨fd_L_exp, F_L_exp⟩ := d.def_ 33 (d := dL_exp) rfl
  have D_L_exp : KD P w K mg base "_law_exp" 2 (spB K Fexp) := kd_mk F_L_exp (ok_L_exp F_L_exp D_L_take h_tuple h_range) (He.glo_ok X G (d.fact 16 (f := .glo "_law_exp") rfl)) (F_L_exp.bindsN (fun _ _ _ _ _ _ us hl => match us, hl with | [_, _, _], _ => rfl))
  obtain ⟨fd_L_some_facts, F_L_some_facts⟩ := d.def_ 34 (d := dL_some_facts) rfl
  have D_L_some_facts : KD P w K mg base "_law_some_facts" 3 (spB K Fsome) := kd_mk F_L_some_facts (ok_L_some_facts F_L_some_facts D_L_take D_L_exp h_range) (He.glo_ok X G (d.fact 17 (f := .glo "_law_some_facts") rfl)) (F_L_some_facts.bindsN (fun _ _ _ _ _ _ us hl => match us, hl with | [_, _, _, _], _ => rfl))
  obtain ⟨fd_L_pow, F_L_pow⟩ := d.def_ 38 (d := dL_pow) rfl
  have D_L_pow : KD P w K mg base "_law_pow" 1 (spD K FL_pow) := kd_mk F_L_pow (ok_L_pow F_L_pow h_int) (He.glo_ok X G (d.fact 21 (f := .glo "_law_pow") rfl)) (F_L_pow.bindsN (fun _ _ _ _ _ _ us hl => match us, hl with | [_, _], _ => rfl))
  obtain ⟨fd_L_mono, F_L_mono⟩ := d.def_ 35 (d := dL_mono) rfl
  have D_L_mono : KD P w K mg base "_law_mono" 2 (spD K FL_mono) := kd_mk F_L_mono (ok_L_mono F_L_mono D_L_pow h_zip) (He.glo_ok X G (d.fact 18 (f := .glo "_law_mono") rfl)) (F_L_mono.bindsN (fun _ _ _ _ _ _ us hl => match us, hl with | [_, _], _ => rfl))
  obtain ⟨fd_L_fit_row, F_L_fit_row⟩ := d.def_ 36 (d := dL_fit_row) rfl
  have D_L_fit_row : KD P w K mg base "_law_fit_row" 3 (spD K FL_fit) := kd_mk F_L_fit_row (ok_L_fit_row F_L_fit_row D_L_mono h_all) (He.glo_ok X G (d.fact 19 (f := .glo "_law_fit_row") rfl)) (F_L_fit_row.bindsN (fun _ _ _ _ _ _ us hl => match us, hl with | [_, _], _ => rfl))
  obtain ⟨fd_L_dot, F_L_dot⟩ := d.def_ 37 (d := dL_dot) rfl
  have D_L_dot : KD P w K mg base "_law_dot" 1 (spD K FL_dot) := kd_mk F_L_dot (ok_L_dot F_L_dot h_sum h_zip) (He.glo_ok X G (d.fact 20 (f := .glo "_law_dot") rfl)) (F_L_dot.bindsN (fun _ _ _ _ _ _ us hl => match us, hl with | [_, _], _ => rfl))
  obtain ⟨fd_S_is_exponent, F_S_is_exponent⟩ := d.def_ 14 (d := dSchema__is_exponent) rfl
  have D_S_is_exponent : KM P w K mg base (He.ga K "Schema") "is_exponent" 3 (spO K (Fsch_isExp (He.ga K "Schema"))) := ⟨_, _, _, ok_Sis_exponent F_S_is_exponent D_ies c n2, m_is_exponent.at_, m_is_exponent.fn, m_is_exponent.kp, F_S_is_exponent.bindsN (fun _ _ _ _ _ _ us hl => match us, hl with | [_, _], _ => rfl)⟩
  obtain ⟨fd_S_facts, F_S_facts⟩ := d.def_ 11 (d := dSchema__facts) rfl
  have D_S_facts : KM P w K mg base (He.ga K "Schema") "facts" 1 (spFacts K (He.ga K "Schema")) := ⟨_, _, _, ok_Sfacts F_S_facts h_list c n3, m_facts.at_, m_facts.fn, m_facts.kp, F_S_facts.bindsN (fun _ _ _ _ _ _ us hl => match us, hl with | [_], _ => rfl)⟩
  obtain ⟨fd_S_steps, F_S_steps⟩ := d.def_ 12 (d := dSchema__steps) rfl
  have D_S_steps : KM P w K mg base (He.ga K "Schema") "steps" 1 (spO K (FSsteps (He.ga K "Schema") K)) := ⟨_, _, _, ok_Ssteps F_S_steps h_tuple h_zip c n3, m_steps.at_, m_steps.fn, m_steps.kp, F_S_steps.bindsN (fun _ _ _ _ _ _ us hl => match us, hl with | [_], _ => rfl)⟩
  obtain ⟨fd_S_contains, F_S_contains⟩ := d.def_ 13 (d := dSchema____contains__) rfl
  have D_S_contains : KM P w K mg base (He.ga K "Schema") "__contains__" 3 (spO K (FScont (He.ga K "Schema") K)) := ⟨_, _, _, ok_Scont F_S_contains D_is_number D_monomial h_isinstance h_tuple h_len h_all c n3 n2, m___contains__.at_, m___contains__.fn, m___contains__.kp, F_S_contains.bindsN (fun _ _ _ _ _ _ us hl => match us, hl with | [_, _], _ => rfl)⟩
  obtain ⟨fd_S_fits, F_S_fits⟩ := d.def_ 15 (d := dSchema__fits) rfl
  have D_S_fits : KM P w K mg base (He.ga K "Schema") "fits" 3 (spO K (FSfits (He.ga K "Schema") K)) := ⟨_, _, _, ok_Sfits F_S_fits D_is_direction D_dot D_S_steps h_all c n2, m_fits.at_, m_fits.fn, m_fits.kp, F_S_fits.bindsN (fun _ _ _ _ _ _ us hl => match us, hl with | [_, _], _ => rfl)⟩
  have D_fitsK : KMK P w K mg base (He.ga K "Schema") "fits" "value" 3 (spO K (FSfits (He.ga K "Schema") K)) := ⟨_, _, _, ok_Sfits F_S_fits D_is_direction D_dot D_S_steps h_all c n2, m_fits.at_, m_fits.fn, m_fits.kp, kbindsN F_S_fits 1 fun _ _ _ _ _ _ us ws l1 l2 => match us, l1, ws, l2 with | [_], _, [_], _ => rfl⟩
  obtain ⟨fd_S_eq, F_S_eq⟩ := d.def_ 24 (d := dSchema____eq__) rfl
  have D_S_eq : KM P w K mg base (He.ga K "Schema") "__eq__" 1 (spEqS K (He.ga K "Schema")) := ⟨_, _, _, ok_Seq F_S_eq h_isinstance gS c isi n1 n3, m___eq__.at_, m___eq__.fn, m___eq__.kp, F_S_eq.bindsN (fun _ _ _ _ _ _ us hl => match us, hl with | [_, _], _ => rfl)⟩
  obtain ⟨fd_S_repr, F_S_repr⟩ := d.def_ 25 (d := dSchema____repr__) rfl
  have D_S_repr : KM P w K mg base (He.ga K "Schema") "__repr__" 1 (spO K (FSrepr (He.ga K "Schema") K)) := ⟨_, _, _, ok_Srepr F_S_repr h_len c n3 n1, m___repr__.at_, m___repr__.fn, m___repr__.kp, F_S_repr.bindsN (fun _ _ _ _ _ _ us hl => match us, hl with | [_], _ => rfl)⟩
  obtain ⟨fd_init, F_init⟩ := d.def_ 10 (d := dSchema____init__) rfl
  have F_init : FunD K "__init__" "Schema.__init__" (defArgs sSchema____init__) (defBody sSchema____init__) (defScope sSchema____init__) [.ref (He.dflAt ("Schema", some "__init__") 0 K)] [] (He.ma K (He.ga K "Schema") "__init__") fd_init := F_init
  have G_init := ok_Sinit (P := P) (w := w) (mg := mg) (base := base) F_init D_check_columns D_S_is_exponent c n1 n2 n3 gS cr cv h_len h_isinstance h_list h_tuple h_enumerate
  have M : MkS P w K mg base (He.ga K "Schema") := by
    obtain ⟨u3, hu3, b3⟩ := F_init.binds1 (ps := ["self", "columns", "facts"]) 3 1 (fun z => nomatch z) rfl (fun T kV doc pm an cdv ct us its l1 l2 => match us, l1, its, l2 with | [_, _, _], _, [_], _ => ⟨_, rfl, rfl⟩)
    obtain ⟨u2, hu2, b2⟩ := F_init.binds1 (ps := ["self", "columns", "facts"]) 2 0 (fun z => nomatch z) rfl (fun T kV doc pm an cdv ct us its l1 l2 => match us, l1, its, l2 with | [_, _], _, [_], _ => ⟨_, rfl, rfl⟩)
    obtain ⟨its, kb⟩ := F_init.kbindsD (ps := ["self", "columns", "facts"]) 1 ["facts", "columns"] gK (fun z => nomatch z) gK_rel (fun T kV doc pm an cdv ct us its ws l1 l2 l3 => match us, l1, its, l2, ws, l3 with | [_], _, [_], _, [_, _], _ => ⟨_, rfl, rfl⟩)
    cases hu3
    exact ⟨_, fd_init, ["self", "columns", "facts"], _, mkr, G_init, b3, ⟨u2, hu2, b2⟩, hdv, _, _, kb, fun s v w => rfl⟩
  obtain ⟨fd_with, F_with⟩ := d.def_ 21 (d := dSchema__with_facts) rfl
  have D_with : KMS P w K mg base (He.ga K "Schema") "with_facts" 6 (spWith K (He.ga K "Schema")) := ⟨_, ok_Swith F_with M D_S_is_exponent c n1 n3 gS h_len h_isinstance h_tuple h_enumerate h_all, m_with_facts.at_, m_with_facts.fn, m_with_facts.kp⟩
  have L : LE P w K mg base (He.ga K "Schema") := ⟨D_L_open, D_L_take, D_L_one, D_L_letters, D_L_some_facts, D_L_odd, D_L_same, D_L_fit_row, D_L_dot, M, c, n1, n2, gS, ne, isi, D_S_facts, D_S_repr, D_S_contains, D_S_fits, D_fitsK, D_S_is_exponent, D_with, D_S_eq, ⟨_, t4, cr, cv⟩, h_list, h_len, h_repr, h_str, h_tuple, h_range, h_all, h_isinstance, h_int, h_bool⟩
  exact ok_law F_law L e8
end
end K07
open PySem PySem.W PySem.Calls PyProof.Rows
theorem PySem.Challenge.cw_dealtpowers_k07_schemas_told_holds : PySem.Challenge.rw_dealtpowers_k07_schemas_told.Holds := by
  w_on; o_law
  refine HandSHeadRun.head_any (r := OpenLaw.row PySem.Challenge.rw_dealtpowers_k07_schemas_told) (q := view (OpenLaw.row PySem.Challenge.rw_dealtpowers_k07_schemas_told).prog [32]) (H := K07.hk) (ob := K07.ob) (M := 20000) (loose := K07.nms) (d := HandSHeadRun.topDef (OpenLaw.row PySem.Challenge.rw_dealtpowers_k07_schemas_told).prog 32) (kwd := []) K07.ob_eq
    (by kernel_rfl) (fun s => by kernel_rfl) K07.run (by kernel_rfl) (by kernel_rfl) (by kernel_rfl) (by rfl) (by first | assumption | decide +kernel) (by decide +kernel) ⟨rfl, rfl, rfl, rfl, rfl, by decide +kernel⟩ ?hw ?hc
  case hw => w_witness2
  case hc =>
    refine L2.walk_ofE (l := PySem.Challenge.rw_dealtpowers_k07_schemas_told) (n := 63) (k := 11) (x := "_law_script") (CX := L2.CX0) rfl (by decide) (by kernel_rfl) ⟨rfl, by decide, by decide⟩ ?F (fun _ _ _ _ z => z)
    intro w mg fa h Y G hmg0
    obtain ⟨K, KX, c⟩ := Y
    have hmg : mg ("law" : PySem.Str) = some (.ref fa) := by
      have e : (HandSHeadRun.topDef (OpenLaw.row PySem.Challenge.rw_dealtpowers_k07_schemas_told).prog 32).name = ("law" : PySem.Str) := by kernel_rfl
      rw [← e]
      exact hmg0
    obtain ⟨fd, hb, hF⟩ := K07.facts (P := (PySem.Challenge.rw_dealtpowers_k07_schemas_told).prog) (w := w) KX G hmg c
    exact ⟨K, fd, K07.spLaw K, KX, hb, fun H a ns hl _ hS => ⟨a, ns, rfl, hS, hl, fun _ => rfl⟩, hF⟩
