import PyProof.Rows.All
import Wide.All
import OpenK.AllK
import Wide.FinOn
import HandS.ForMost
import HandS.Walk
import HandS.IsInst
import HandS.Zip
import KE.KRevSl
import HandS.SetBool
import HandS.SetFor
import HandS.Strs
import HandS.Defaults
import HandS.HeadEnd
import HandS.HeadHook2
import HandS.Head0
import HandS.Head1
import HandS.Head2
import PySem.Challenge.RW_ringproofs_k03_variables_and_sizes
set_option Elab.async false
set_option linter.all false
set_option maxRecDepth 100000
set_option maxHeartbeats 0
/-! Dl: a layer over HandS in which a def is walked over plain data (PyData) and a store of mutable objects, with no heap in sight. -/
namespace Dl
open PySem PySem.Spec L2
open PyProof.Rows hiding St

/-! ### best readings -/
section
variable {X : Cx} {e a b : Expr} {σ : St} {H : Hp}
def tE (X : Cx) (e : Expr) : TE := fun σ H Q => ∀ (pins : List (Addr × Obj)) (s : Shared), Inv X pins σ H s → wpAny (model X.prog X.w) X.A (eval e X.env) (EP X pins σ Q) X.xe s
theorem peB : PE X e (tE X e) := ⟨fun pins s _ _ _ I h => h pins s I⟩
theorem tE_of {t : TE} {Q : VK} (p : PE X e t) (h : t σ H Q) : tE X e σ H Q := fun pins s I => p.run pins s σ H Q I h
theorem tE_mono {Q Q' : VK} (h : tE X e σ H Q) (q : ∀ v H', Q v H' → Q' v H') : tE X e σ H Q' := fun pins s I =>
  thn (h pins s I) fun _ _ ⟨v, H', I', r, z⟩ => ⟨v, H', I', r, q v H' z⟩
def tT (X : Cx) (e : Expr) : TT := fun σ H Q => ∀ (pins : List (Addr × Obj)) (s : Shared), Inv X pins σ H s → wpAny (model X.prog X.w) X.A (isTrue e X.env (eval e X.env)) (TP X pins σ Q) X.xe s
theorem ptB : PT X e (tT X e) := ⟨fun pins s _ _ _ I h => h pins s I⟩
theorem tT_of {t : TT} {Q : Bool → Hp → Prop} (p : PT X e t) (h : t σ H Q) : tT X e σ H Q := fun pins s I => p.run pins s σ H Q I h
theorem tT_mono {Q Q' : Bool → Hp → Prop} (h : tT X e σ H Q) (q : ∀ v H', Q v H' → Q' v H') : tT X e σ H Q' := fun pins s I =>
  thn (h pins s I) fun _ _ ⟨H', I', z⟩ => ⟨H', I', q _ H' z⟩
def tWh (X : Cx) (e : Expr) : TT := fun σ H Q => ∀ (whole : Sem Value) (pins : List (Addr × Obj)) (s : Shared), Inv X pins σ H s → wpAny (model X.prog X.w) X.A (isTrue e X.env whole) (TP X pins σ Q) X.xe s
theorem pwB : PW X e (tWh X e) := ⟨fun wh pins s _ _ _ I h => h wh pins s I⟩
theorem tWh_of {t : TT} {Q : Bool → Hp → Prop} (p : PW X e t) (h : t σ H Q) : tWh X e σ H Q := fun wh pins s I => p.run wh pins s σ H Q I h
def tA (X : Cx) (es : List Expr) : TA := fun σ H Q => ∀ (pos : Pos) (pins : List (Addr × Obj)) (s : Shared), Inv X pins σ H s → wpAny (model X.prog X.w) X.A (spliced (backTo pos (starEach es X.env))) (AP X pins σ Q) X.xe s
theorem paB {es : List Expr} : PA X es (tA X es) := ⟨fun pos pins s _ _ _ I h => h pos pins s I⟩
theorem tA_of {es : List Expr} {t : TA} {Q : List V → Hp → Prop} (p : PA X es t) (h : t σ H Q) : tA X es σ H Q := fun pos pins s I => p.run pos pins s σ H Q I h
theorem tA_mono {es : List Expr} {Q Q' : List V → Hp → Prop} (h : tA X es σ H Q) (q : ∀ v H', Q v H' → Q' v H') : tA X es σ H Q' := fun pos pins s I =>
  thn (h pos pins s I) fun _ _ ⟨v, H', I', r, z⟩ => ⟨v, H', I', r, q v H' z⟩
def tS (X : Cx) (st : Stmt) : TS := fun D σ H => ∀ (pins : List (Addr × Obj)) (s : Shared), Inv X pins σ H s → wpAny (model X.prog X.w) X.A (exec st X.env) (SP X pins D) X.xe s
theorem psB {st : Stmt} : PS X st (tS X st) := ⟨fun pins s _ _ _ I h => h pins s I⟩
theorem tS_of {st : Stmt} {t : TS} {D : Ends} (p : PS X st t) (h : t D σ H) : tS X st D σ H := fun pins s I => p.run pins s σ H D I h
def tSs (X : Cx) (st : List Stmt) : TS := fun D σ H => ∀ (pins : List (Addr × Obj)) (s : Shared), Inv X pins σ H s → wpAny (model X.prog X.w) X.A (execs st X.env) (SP X pins D) X.xe s
theorem pssB {st : List Stmt} : PSs X st (tSs X st) := ⟨fun pins s _ _ _ I h => h pins s I⟩
theorem tSs_of {st : List Stmt} {t : TS} {D : Ends} (p : PSs X st t) (h : t D σ H) : tSs X st D σ H := fun pins s I => p.run pins s σ H D I h
/-- operations by values -/
def rB (X : Cx) (f : Value → Value → Sem Value) : R2 := fun x y H Q => ∀ (pins : List (Addr × Obj)) (s : Shared) (σ : St) (v u : Value), Inv X pins σ H s → RelV x v → RelV y u → wpAny (model X.prog X.w) X.A (f v u) (EP X pins σ Q) X.xe s
theorem rB_op {f : Value → Value → Sem Value} : OpR X f (rB X f) := fun pins s σ _ _ _ v u _ I rx ry h => h pins s σ v u I rx ry
theorem rB_of {f : Value → Value → Sem Value} {r : R2} {x y : V} {Q : VK} (o : OpR X f r) (h : r x y H Q) : rB X f x y H Q := fun pins s σ v u I rx ry => o pins s σ H x y v u Q I rx ry h
def uB (X : Cx) (f : Value → Sem Value) : V → Hp → VK → Prop := fun x H Q => ∀ (pins : List (Addr × Obj)) (s : Shared) (σ : St) (v : Value), Inv X pins σ H s → RelV x v → wpAny (model X.prog X.w) X.A (f v) (EP X pins σ Q) X.xe s
theorem uB_op {f : Value → Sem Value} : UnR X f (uB X f) := fun pins s σ _ _ v _ I rx h => h pins s σ v I rx
theorem uB_of {f : Value → Sem Value} {r : V → Hp → VK → Prop} {x : V} {Q : VK} (o : UnR X f r) (h : r x H Q) : uB X f x H Q := fun pins s σ v I rx => o pins s σ H x v Q I rx h
def cB (X : Cx) (f : Value) : List V → Hp → VK → Prop := fun xs H Q => ∀ (pins : List (Addr × Obj)) (s : Shared) (σ : St) (us : List Value), Inv X pins σ H s → Vals xs us → wpAny (model X.prog X.w) X.A (call f us) (EP X pins σ Q) X.xe s
theorem cB_op {f : Value} : CallR X f (cB X f) := fun pins s σ _ _ us _ I rx h => h pins s σ us I rx
theorem cB_of {f : Value} {r : List V → Hp → VK → Prop} {xs : List V} {Q : VK} (o : CallR X f r) (h : r xs H Q) : cB X f xs H Q := fun pins s σ us I rx => o pins s σ H xs us Q I rx h
def mB (X : Cx) (id : String) : V → List V → Hp → VK → Prop := fun x xs H Q => ∀ (pins : List (Addr × Obj)) (s : Shared) (σ : St) (v : Value) (us : List Value), Inv X pins σ H s → RelV x v → Vals xs us → wpAny (model X.prog X.w) X.A (call (.builtin id) (v :: us)) (EP X pins σ Q) X.xe s
theorem mB_op {id : String} : MtR X id (mB X id) := fun pins s σ _ _ _ v us _ I rx rs h => h pins s σ v us I rx rs
theorem mB_of {id : String} {r : V → List V → Hp → VK → Prop} {x : V} {xs : List V} {Q : VK} (o : MtR X id r) (h : r x xs H Q) : mB X id x xs H Q := fun pins s σ v us I rx rs => o pins s σ H x xs v us Q I rx rs h
end

/-! ### data and objects -/
/-- a slot, a value: nothing known; data that stays; the i-th object of the store -/
inductive Sl where
  | no
  | sh (d : PyData)
  | ob (i : Nat)
/-- an object of the store -/
inductive OO where
  | gone
  | lst (xs : List Sl)
structure Z where
  sl : List Sl
  ob : List OO
/-- a world: the objects' addresses, what stays, the heap -/
structure Wd where
  rho : List Addr
  S : Hp
  H : Hp
structure Wd.Le (w w' : Wd) : Prop where
  st : Same w.S w'.S
  rho : ∀ (i : Nat) (p : Addr), w.rho[i]? = some p → w'.rho[i]? = some p
theorem Wd.Le.refl (w : Wd) : w.Le w := ⟨Same.refl _, fun _ _ h => h⟩
theorem Wd.Le.trans {w w1 w2 : Wd} (a : w.Le w1) (b : w1.Le w2) : w.Le w2 := ⟨a.st.trans b.st, fun i p h => b.rho i p (a.rho i p h)⟩

theorem Same.tup {K : PySem.W.Frag} {H H' : Hp} {a : Addr} {xs : List V} (e : Same H H') (h : SqT K H a xs) : SqT K H' a xs := by
  rcases h with (h | ⟨o, h⟩) | h
  · exact .inl (.inl (e _ _ h))
  · exact .inl (.inr ⟨o, e _ _ h⟩)
  · exact .inr h
theorem Same.rd {H H' : Hp} {a : Addr} {u : HO} (e : Same H H') (h : Rd H a u) : Rd H' a u := by
  rcases h with h | ⟨o, h⟩
  · exact .inl (e _ _ h)
  · exact .inr ⟨o, e _ _ h⟩
mutual
/-- a value that bears data -/
inductive Dq (K : PySem.W.Frag) (H : Hp) : V → PyData → Prop
  | non : Dq K H .non .none
  | bl (b : Bool) : Dq K H (.bl b) (.bool b)
  | int (i : Int) : Dq K H (.int i) (.int i)
  | str (x : Str) : Dq K H (.str x) (.str x)
  | lst {a : Addr} {xs : List V} {ds : List PyData} : Rd H a (.lst xs) → DqAll K H xs ds → Dq K H (.ref a) (.list ds)
  | tup {a : Addr} {xs : List V} {ds : List PyData} : SqT K H a xs → DqAll K H xs ds → Dq K H (.ref a) (.tuple ds)
inductive DqAll (K : PySem.W.Frag) (H : Hp) : List V → List PyData → Prop
  | nil : DqAll K H [] []
  | cons {v : V} {vs : List V} {d : PyData} {ds : List PyData} : Dq K H v d → DqAll K H vs ds → DqAll K H (v :: vs) (d :: ds)
end
mutual
theorem Dq.dp {K : PySem.W.Frag} {H : Hp} : ∀ {v : V} {d : PyData}, Dq K H v d → L2.Dp K H v d
  | _, _, .non => .non
  | _, _, .bl b => .bl b
  | _, _, .int i => .int i
  | _, _, .str x => .str x
  | _, _, .lst h hs => .lst (.inl h) (DqAll.dp hs)
  | _, _, .tup h hs => .tup h (DqAll.dp hs)
theorem DqAll.dp {K : PySem.W.Frag} {H : Hp} : ∀ {vs : List V} {ds : List PyData}, DqAll K H vs ds → L2.DpAll K H vs ds
  | _, _, .nil => .nil
  | _, _, .cons h hs => .cons (Dq.dp h) (DqAll.dp hs)
end
mutual
theorem Dp_mono {K : PySem.W.Frag} {H H' : Hp} (e : Same H H') : ∀ {v : V} {d : PyData}, Dq K H v d → Dq K H' v d
  | _, _, .non => .non
  | _, _, .bl b => .bl b
  | _, _, .int i => .int i
  | _, _, .str x => .str x
  | _, _, .lst h hs => .lst (Same.rd e h) (DpAll_mono e hs)
  | _, _, .tup h hs => .tup (Same.tup e h) (DpAll_mono e hs)
theorem DpAll_mono {K : PySem.W.Frag} {H H' : Hp} (e : Same H H') : ∀ {vs : List V} {ds : List PyData}, DqAll K H vs ds → DqAll K H' vs ds
  | _, _, .nil => .nil
  | _, _, .cons h hs => .cons (Dp_mono e h) (DpAll_mono e hs)
end

def Vl (K : PySem.W.Frag) (w : Wd) (v : V) : Sl → Prop
  | .no => False
  | .sh d => Dq K w.S v d
  | .ob i => ∃ p, w.rho[i]? = some p ∧ v = .ref p
theorem Vl.mono {K : PySem.W.Frag} {w w' : Wd} (l : w.Le w') {v : V} : ∀ {x : Sl}, Vl K w v x → Vl K w' v x
  | .no, h => h
  | .sh _, h => Dp_mono l.st h
  | .ob i, ⟨p, h, e⟩ => ⟨p, l.rho i p h, e⟩
def Sv (K : PySem.W.Frag) (w : Wd) (o : Option V) (x : Sl) : Prop := x = .no ∨ ∃ v, o = some v ∧ Vl K w v x
theorem Sv.mono {K : PySem.W.Frag} {w w' : Wd} (l : w.Le w') {o : Option V} {x : Sl} (h : Sv K w o x) : Sv K w' o x := by
  rcases h with h | ⟨v, e, h⟩
  · exact .inl h
  · exact .inr ⟨v, e, h.mono l⟩
def Ob (K : PySem.W.Frag) (w : Wd) (p : Addr) : OO → Prop
  | .gone => True
  | .lst xs => w.S p = none ∧ ∃ vs, w.H p = some (.lst vs) ∧ Paired (Vl K w) vs xs
theorem Ob.mono {K : PySem.W.Frag} {w w' : Wd} (l : w.Le w') {p : Addr} (hS : w.S p = none → w'.S p = none) (hH : w'.H p = w.H p) : ∀ {o : OO}, Ob K w p o → Ob K w' p o
  | .gone, _ => trivial
  | .lst xs, ⟨s, vs, e, h⟩ => ⟨hS s, vs, hH.trans e, h.mono fun _ _ q => q.mono l⟩

/-- where a def was entered -/
structure Ct where
  S : Hp
  H : Hp
  rho : List Addr
structure B (K : PySem.W.Frag) (c : Ct) (w : Wd) (σ : St) (z : Z) : Prop where
  same : Same w.S w.H
  len : w.rho.length = z.ob.length
  nd : w.rho.Nodup
  tr : ∀ p ∈ w.rho, w.H p ≠ none
  sl : Paired (Sv K w) σ z.sl
  ob : ∀ (i : Nat) (o : OO) (p : Addr), z.ob[i]? = some o → w.rho[i]? = some p → Ob K w p o
  pre : ∀ (i : Nat) (p : Addr), c.rho[i]? = some p → w.rho[i]? = some p
  fr : ∀ a o, c.H a = some o → a ∉ c.rho → w.H a = some o
  nw : ∀ a o, w.S a = some o → c.S a ≠ none ∨ c.H a = none
  st : Same c.S w.S
  nr : ∀ (i : Nat) (p : Addr), c.rho.length ≤ i → w.rho[i]? = some p → c.H p = none

theorem nodup_ixA {l : List Addr} (nd : l.Nodup) : ∀ {i j : Nat} {p : Addr}, l[i]? = some p → l[j]? = some p → i = j := by
  intro i j p h1 h2
  obtain ⟨a1, b1⟩ := List.getElem?_eq_some_iff.mp h1
  obtain ⟨a2, b2⟩ := List.getElem?_eq_some_iff.mp h2
  exact (List.getElem_inj nd).mp (b1.trans b2.symm)
section
variable {K : PySem.W.Frag} {c : Ct} {w : Wd} {σ : St} {z : Z}
theorem B.fresh (b : B K c w σ z) {p : Addr} (h : w.H p = none) : c.H p = none := by
  cases e : c.H p with
  | none => rfl
  | some o =>
    by_cases hp : p ∈ c.rho
    · obtain ⟨i, hi⟩ := List.getElem?_of_mem hp
      exact absurd h (b.tr p (List.mem_of_getElem? (b.pre i p hi)))
    · rw [b.fr p o e hp] at h
      cases h
theorem B.freshS (b : B K c w σ z) {p : Addr} (h : w.H p = none) : w.S p = none := by
  cases e : w.S p with
  | none => rfl
  | some o =>
    rw [b.same p o e] at h
    cases h
theorem B.ne (b : B K c w σ z) {p q : Addr} (h : w.H p = none) (hq : q ∈ w.rho) : q ≠ p := fun e => b.tr q hq (e ▸ h)
theorem le_new {p : Addr} {o : HO} (h : w.S p = none) : w.Le ⟨w.rho, upd w.S p o, upd w.H p o⟩ := ⟨fun a u e => by
  show upd w.S p o a = some u
  rw [upd_ne (ne_of_none e h)]
  exact e, fun _ _ h => h⟩
/-- a new thing that stays -/
theorem B.newS (b : B K c w σ z) {p : Addr} {o : HO} (h : w.H p = none) : B K c ⟨w.rho, upd w.S p o, upd w.H p o⟩ σ z := by
  have hs := b.freshS h
  have l : w.Le ⟨w.rho, upd w.S p o, upd w.H p o⟩ := le_new hs
  refine ⟨fun a u e => ?_, b.len, b.nd, fun q hq => ?_, b.sl.mono fun _ _ q => q.mono l, fun i x q h1 h2 => ?_, b.pre, fun a u e hn => ?_, fun a u e => ?_, b.st.trans l.st, b.nr⟩
  · show upd w.H p o a = some u
    have e : upd w.S p o a = some u := e
    by_cases ha : a = p
    · subst ha
      rw [upd_same] at e ⊢
      exact e
    · rw [upd_ne ha] at e ⊢
      exact b.same a u e
  · show upd w.H p o q ≠ none
    rw [upd_ne (b.ne h hq)]
    exact b.tr q hq
  · have hq := b.ne h (List.mem_of_getElem? h2)
    exact (b.ob i x q h1 h2).mono l (fun e => by
      show upd w.S p o q = none
      rw [upd_ne hq]
      exact e) (by
      show upd w.H p o q = w.H q
      rw [upd_ne hq])
  · show upd w.H p o a = some u
    have e2 := b.fr a u e hn
    rw [upd_ne (ne_of_none e2 h)]
    exact e2
  · have e : upd w.S p o a = some u := e
    by_cases ha : a = p
    · exact .inr (ha ▸ b.fresh h)
    · rw [upd_ne ha] at e
      exact b.nw a u e
theorem le_obj {p : Addr} {o : HO} {ps : List Addr} : w.Le ⟨w.rho ++ ps, w.S, upd w.H p o⟩ := ⟨Same.refl _, fun i q e => by
  show (w.rho ++ ps)[i]? = some q
  rw [List.getElem?_append_left (List.getElem?_eq_some_iff.mp e).1]
  exact e⟩
/-- a new object of the store -/
theorem B.newO (b : B K c w σ z) {p : Addr} {vs : List V} {xs : List Sl} (h : w.H p = none) (hv : Paired (Vl K w) vs xs) :
    B K c ⟨w.rho ++ [p], w.S, upd w.H p (.lst vs)⟩ σ ⟨z.sl, z.ob ++ [.lst xs]⟩ := by
  have hs := b.freshS h
  have l : w.Le ⟨w.rho ++ [p], w.S, upd w.H p (.lst vs)⟩ := le_obj
  have hpn : p ∉ w.rho := fun hp => b.tr p hp h
  refine ⟨fun a u e => ?_, ?_, ?_, fun q hq => ?_, b.sl.mono fun _ _ q => q.mono l, fun i x q h1 h2 => ?_, fun i q e => l.rho i q (b.pre i q e), fun a u e hn => ?_, b.nw, b.st, fun i q hi e => ?_⟩
  · show upd w.H p (.lst vs) a = some u
    rw [upd_ne (ne_of_none (b.same a u e) h)]
    exact b.same a u e
  · show (w.rho ++ [p]).length = (z.ob ++ [OO.lst xs]).length
    rw [List.length_append, List.length_append, b.len]
    rfl
  · exact List.nodup_append.mpr ⟨b.nd, by simp, fun a ha q hq => by
      rw [List.mem_singleton] at hq
      subst hq
      exact fun e => hpn (e ▸ ha)⟩
  · show upd w.H p (.lst vs) q ≠ none
    by_cases hqp : q = p
    · subst hqp
      rw [upd_same]
      simp
    · rw [upd_ne hqp]
      rcases List.mem_append.mp hq with hq | hq
      · exact b.tr q hq
      · exact absurd (List.mem_singleton.mp hq) hqp
  · have h1 : (z.ob ++ [OO.lst xs])[i]? = some x := h1
    have h2 : (w.rho ++ [p])[i]? = some q := h2
    by_cases hi : i < w.rho.length
    · rw [List.getElem?_append_left hi] at h2
      rw [List.getElem?_append_left (b.len ▸ hi)] at h1
      have hq := b.ne h (List.mem_of_getElem? h2)
      exact (b.ob i x q h1 h2).mono l (fun e => e) (by
        show upd w.H p (.lst vs) q = w.H q
        rw [upd_ne hq])
    · have hi2 : i = w.rho.length := by
        have := (List.getElem?_eq_some_iff.mp h2).1
        rw [List.length_append] at this
        simp at this
        omega
      subst hi2
      rw [List.getElem?_append_right (Nat.le_refl _), Nat.sub_self] at h2
      rw [b.len, List.getElem?_append_right (Nat.le_refl _), Nat.sub_self] at h1
      cases h1
      cases h2
      refine ⟨hs, vs, ?_, hv.mono fun _ _ q => q.mono l⟩
      show upd w.H p (.lst vs) p = _
      rw [upd_same]
  · show upd w.H p (.lst vs) a = some u
    have e2 := b.fr a u e hn
    rw [upd_ne (ne_of_none e2 h)]
    exact e2
  · have e : (w.rho ++ [p])[i]? = some q := e
    by_cases hi2 : i < w.rho.length
    · rw [List.getElem?_append_left hi2] at e
      exact b.nr i q hi e
    · have : q ∈ [p] := by
        rw [List.getElem?_append_right (by omega)] at e
        exact List.mem_of_getElem? e
      rw [List.mem_singleton] at this
      subst this
      exact b.fresh h
theorem le_set {p : Addr} {o : HO} : w.Le ⟨w.rho, w.S, upd w.H p o⟩ := ⟨Same.refl _, fun _ _ e => e⟩
/-- a list of the store is written -/
theorem B.setO (b : B K c w σ z) {i : Nat} {p : Addr} {xs ys : List Sl} {vs : List V} (hi : z.ob[i]? = some (.lst xs)) (hp : w.rho[i]? = some p) (hv : Paired (Vl K w) vs ys) :
    B K c ⟨w.rho, w.S, upd w.H p (.lst vs)⟩ σ ⟨z.sl, z.ob.set i (.lst ys)⟩ := by
  have l : w.Le ⟨w.rho, w.S, upd w.H p (.lst vs)⟩ := le_set
  obtain ⟨hS, us, hH, _⟩ := b.ob i _ p hi hp
  refine ⟨fun a u e => ?_, ?_, b.nd, fun q hq => ?_, b.sl.mono fun _ _ q => q.mono l, fun j x q h1 h2 => ?_, b.pre, fun a u e hn => ?_, b.nw, b.st, b.nr⟩
  · show upd w.H p (.lst vs) a = some u
    rw [upd_ne (ne_of_none e hS)]
    exact b.same a u e
  · show w.rho.length = (z.ob.set i _).length
    rw [List.length_set]
    exact b.len
  · show upd w.H p (.lst vs) q ≠ none
    by_cases hqp : q = p
    · subst hqp
      rw [upd_same]
      simp
    · rw [upd_ne hqp]
      exact b.tr q hq
  · have h1 : (z.ob.set i (.lst ys))[j]? = some x := h1
    have h2 : w.rho[j]? = some q := h2
    by_cases hj : i = j
    · subst hj
      rw [hp] at h2
      cases h2
      have hlt := (List.getElem?_eq_some_iff.mp hi).1
      rw [List.getElem?_set_self hlt] at h1
      cases h1
      refine ⟨hS, vs, ?_, hv.mono fun _ _ q => q.mono l⟩
      show upd w.H p (.lst vs) p = _
      rw [upd_same]
    · rw [List.getElem?_set_ne hj] at h1
      have hqp : q ≠ p := fun e => by
        subst e
        exact hj (nodup_ixA b.nd hp h2)
      exact (b.ob j x q h1 h2).mono l (fun e => e) (by
        show upd w.H p (.lst vs) q = w.H q
        rw [upd_ne hqp])
  · show upd w.H p (.lst vs) a = some u
    by_cases hap : a = p
    · subst hap
      have := b.fr a u e hn
      by_cases hc : i < c.rho.length
      · have e5 : c.rho[i]? = some c.rho[i] := List.getElem?_eq_getElem hc
        have e6 := b.pre i _ e5
        rw [hp] at e6
        exact absurd (Option.some.inj e6 ▸ List.getElem_mem hc) hn
      · have e6 := b.nr i a (by omega) hp
        rw [e] at e6
        cases e6
    · rw [upd_ne hap]
      exact b.fr a u e hn
/-- a slot is written -/
theorem paired_set {α β : Type} {F : α → β → Prop} {a : α} {y : β} (h : F a y) : ∀ {l₁ : List α} {l₂ : List β} (i : Nat), Paired F l₁ l₂ → Paired F (l₁.set i a) (l₂.set i y)
  | _, _, _, .nil => .nil
  | _, _, 0, .cons _ t => .cons h t
  | _, _, i + 1, .cons q t => .cons q (paired_set h i t)
theorem paired_get {α β : Type} {F : α → β → Prop} : ∀ {l₁ : List α} {l₂ : List β} {i : Nat} {y : β}, Paired F l₁ l₂ → l₂[i]? = some y → ∃ x, l₁[i]? = some x ∧ F x y
  | _, _, _, _, .nil, e => by simp at e
  | _, _, 0, _, .cons r _, e => by simp at e; subst e; exact ⟨_, rfl, r⟩
  | _, _, i + 1, x, .cons _ t, e => by
    obtain ⟨u, h1, h2⟩ := paired_get (i := i) t (by simpa using e)
    exact ⟨u, by simpa using h1, h2⟩
theorem paired_get' {α β : Type} {F : α → β → Prop} : ∀ {l₁ : List α} {l₂ : List β} {i : Nat} {x : α}, Paired F l₁ l₂ → l₁[i]? = some x → ∃ y, l₂[i]? = some y ∧ F x y
  | _, _, _, _, .nil, e => by simp at e
  | _, _, 0, _, .cons r _, e => by simp at e; subst e; exact ⟨_, rfl, r⟩
  | _, _, i + 1, x, .cons _ t, e => by
    obtain ⟨u, h1, h2⟩ := paired_get' (i := i) t (by simpa using e)
    exact ⟨u, by simpa using h1, h2⟩
theorem paired_app {α β : Type} {F : α → β → Prop} : ∀ {l₁ m₁ : List α} {l₂ m₂ : List β}, Paired F l₁ l₂ → Paired F m₁ m₂ → Paired F (l₁ ++ m₁) (l₂ ++ m₂)
  | _, _, _, _, .nil, s => s
  | _, _, _, _, .cons r t, s => .cons r (paired_app t s)
theorem paired_take {α β : Type} {F : α → β → Prop} : ∀ {l₁ : List α} {l₂ : List β} (n : Nat), Paired F l₁ l₂ → Paired F (l₁.take n) (l₂.take n)
  | _, _, 0, _ => .nil
  | _, _, _ + 1, .nil => .nil
  | _, _, n + 1, .cons r t => .cons r (paired_take n t)
theorem paired_drop {α β : Type} {F : α → β → Prop} : ∀ {l₁ : List α} {l₂ : List β} (n : Nat), Paired F l₁ l₂ → Paired F (l₁.drop n) (l₂.drop n)
  | _, _, 0, r => r
  | _, _, _ + 1, .nil => .nil
  | _, _, n + 1, .cons _ t => paired_drop n t
theorem paired_rev {α β : Type} {F : α → β → Prop} : ∀ {l₁ : List α} {l₂ : List β}, Paired F l₁ l₂ → Paired F l₁.reverse l₂.reverse
  | _, _, .nil => .nil
  | _, _, .cons r t => by
    rw [List.reverse_cons, List.reverse_cons]
    exact (paired_rev t).snoc r
theorem B.setSl (b : B K c w σ z) {i : Nat} {v : V} {x : Sl} (h : Vl K w v x) : B K c w (σ.set i (some v)) ⟨z.sl.set i x, z.ob⟩ :=
  ⟨b.same, b.len, b.nd, b.tr, paired_set (.inr ⟨v, rfl, h⟩) i b.sl, b.ob, b.pre, b.fr, b.nw, b.st, b.nr⟩
theorem B.get (b : B K c w σ z) {i : Nat} {x : Sl} (h : z.sl[i]? = some x) (hx : x ≠ .no) : ∃ v, σ[i]? = some (some v) ∧ Vl K w v x := by
  obtain ⟨o, e, q⟩ := paired_get b.sl h
  rcases q with q | ⟨v, rfl, q⟩
  · exact absurd q hx
  · exact ⟨v, e, q⟩
theorem B.atOb (b : B K c w σ z) {i : Nat} {o : OO} (h : z.ob[i]? = some o) : ∃ p, w.rho[i]? = some p ∧ Ob K w p o := by
  have hlt := (List.getElem?_eq_some_iff.mp h).1
  have hl : i < w.rho.length := by
    rw [b.len]
    exact hlt
  have e : w.rho[i]? = some w.rho[i] := List.getElem?_eq_getElem hl
  exact ⟨_, e, b.ob i o _ h e⟩
end
end Dl

namespace Dl
open PySem PySem.Spec L2
open PyProof.Rows hiding St

/-! ### what a piece of the text does over data -/
def Cont (K : PySem.W.Frag) (c : Ct) (w : Wd) (σ : St) (Q : Sl → Z → Prop) (k : VK) : Prop := ∀ v x w' z', B K c w' σ z' → w.Le w' → Vl K w' v x → Q x z' → k v w'.H
def WE (X : Cx) (e : Expr) (z : Z) (Q : Sl → Z → Prop) : Prop := ∀ c w σ k, B X.K c w σ z → Cont X.K c w σ Q k → tE X e σ w.H k
def WT (X : Cx) (e : Expr) (z : Z) (Q : Bool → Z → Prop) : Prop := ∀ c w σ (k : Bool → Hp → Prop), B X.K c w σ z → (∀ b w' z', B X.K c w' σ z' → w.Le w' → Q b z' → k b w'.H) → tT X e σ w.H k
def WW (X : Cx) (e : Expr) (z : Z) (Q : Bool → Z → Prop) : Prop := ∀ c w σ (k : Bool → Hp → Prop), B X.K c w σ z → (∀ b w' z', B X.K c w' σ z' → w.Le w' → Q b z' → k b w'.H) → tWh X e σ w.H k
def WA (X : Cx) (es : List Expr) (z : Z) (Q : List Sl → Z → Prop) : Prop := ∀ c w σ (k : List V → Hp → Prop), B X.K c w σ z → (∀ vs xs w' z', B X.K c w' σ z' → w.Le w' → Paired (Vl X.K w') vs xs → Q xs z' → k vs w'.H) → tA X es σ w.H k
def RD (X : Cx) (f : Value → Value → Sem Value) (x y : Sl) (z : Z) (Q : Sl → Z → Prop) : Prop := ∀ c w σ v u k, B X.K c w σ z → Vl X.K w v x → Vl X.K w u y → Cont X.K c w σ Q k → rB X f v u w.H k
def UD (X : Cx) (f : Value → Sem Value) (x : Sl) (z : Z) (Q : Sl → Z → Prop) : Prop := ∀ c w σ v k, B X.K c w σ z → Vl X.K w v x → Cont X.K c w σ Q k → uB X f v w.H k
def CD (X : Cx) (f : Value) (xs : List Sl) (z : Z) (Q : Sl → Z → Prop) : Prop := ∀ c w σ vs k, B X.K c w σ z → Paired (Vl X.K w) vs xs → Cont X.K c w σ Q k → cB X f vs w.H k
inductive Out where
  | nx (z : Z)
  | rt (x : Sl) (z : Z)
  | bk (z : Z)
  | ct (z : Z)
structure EndsOk (K : PySem.W.Frag) (c : Ct) (w : Wd) (Q : Out → Prop) (D : Ends) : Prop where
  nx : ∀ w' σ' z', B K c w' σ' z' → w.Le w' → Q (.nx z') → D.nx σ' w'.H
  rt : ∀ v x w' σ' z', B K c w' σ' z' → w.Le w' → Vl K w' v x → Q (.rt x z') → D.rt v w'.H
  bk : ∀ w' σ' z', B K c w' σ' z' → w.Le w' → Q (.bk z') → D.bk σ' w'.H
  ct : ∀ w' σ' z', B K c w' σ' z' → w.Le w' → Q (.ct z') → D.ct σ' w'.H
def W1 (X : Cx) (st : Stmt) (z : Z) (Q : Out → Prop) : Prop := ∀ c w σ D, B X.K c w σ z → EndsOk X.K c w Q D → tS X st D σ w.H
def WS (X : Cx) (st : List Stmt) (z : Z) (Q : Out → Prop) : Prop := ∀ c w σ D, B X.K c w σ z → EndsOk X.K c w Q D → tSs X st D σ w.H
theorem Cont.le {K : PySem.W.Frag} {c : Ct} {w w1 : Wd} {σ : St} {Q : Sl → Z → Prop} {k : VK} (h : Cont K c w σ Q k) (l : w.Le w1) : Cont K c w1 σ Q k := fun v x w' z' b l' q hq => h v x w' z' b (l.trans l') q hq
theorem EndsOk.le {K : PySem.W.Frag} {c : Ct} {w w1 : Wd} {Q : Out → Prop} {D : Ends} (h : EndsOk K c w Q D) (l : w.Le w1) : EndsOk K c w1 Q D :=
  ⟨fun w' σ' z' b l' q => h.nx w' σ' z' b (l.trans l') q, fun v x w' σ' z' b l' r q => h.rt v x w' σ' z' b (l.trans l') r q, fun w' σ' z' b l' q => h.bk w' σ' z' b (l.trans l') q, fun w' σ' z' b l' q => h.ct w' σ' z' b (l.trans l') q⟩

theorem vsh {K : PySem.W.Frag} {w : Wd} {v : V} {d : PyData} (h : Dq K w.S v d) : Vl K w v (.sh d) := h
theorem vI {K : PySem.W.Frag} {w : Wd} (i : Int) : Vl K w (.int i) (.sh (.int i)) := Dq.int i
theorem vB {K : PySem.W.Frag} {w : Wd} (i : Bool) : Vl K w (.bl i) (.sh (.bool i)) := Dq.bl i
theorem vS {K : PySem.W.Frag} {w : Wd} (i : Str) : Vl K w (.str i) (.sh (.str i)) := Dq.str i
theorem vN {K : PySem.W.Frag} {w : Wd} : Vl K w .non (.sh .none) := Dq.non
section
variable {X : Cx} {e a b : Expr} {es : List Expr} {z : Z} {pos : Pos} {Q Q' : Sl → Z → Prop}
theorem WE.mono (h : WE X e z Q) (q : ∀ x z', Q x z' → Q' x z') : WE X e z Q' := fun c w σ k b hk => h c w σ k b fun v x w' z' b' l r hq => hk v x w' z' b' l r (q x z' hq)
theorem RD.mono {f : Value → Value → Sem Value} {x y : Sl} (h : RD X f x y z Q) (q : ∀ x z', Q x z' → Q' x z') : RD X f x y z Q' := fun c w σ v u k b r1 r2 hk => h c w σ v u k b r1 r2 fun v x w' z' b' l r hq => hk v x w' z' b' l r (q x z' hq)
theorem WT.mono {P P' : Bool → Z → Prop} (h : WT X e z P) (q : ∀ x z', P x z' → P' x z') : WT X e z P' := fun c w σ k b hk => h c w σ k b fun x w' z' b' l hq => hk x w' z' b' l (q x z' hq)
theorem WA.mono {P P' : List Sl → Z → Prop} (h : WA X es z P) (q : ∀ x z', P x z' → P' x z') : WA X es z P' := fun c w σ k b hk => h c w σ k b fun vs x w' z' b' l r hq => hk vs x w' z' b' l r (q x z' hq)
theorem WS.mono {st : List Stmt} {P P' : Out → Prop} (h : WS X st z P) (q : ∀ o, P o → P' o) : WS X st z P' := fun c w σ D b hk => h c w σ D b
  ⟨fun w' σ' z' b' l hq => hk.nx w' σ' z' b' l (q _ hq), fun v x w' σ' z' b' l r hq => hk.rt v x w' σ' z' b' l r (q _ hq), fun w' σ' z' b' l hq => hk.bk w' σ' z' b' l (q _ hq), fun w' σ' z' b' l hq => hk.ct w' σ' z' b' l (q _ hq)⟩
/-! names, constants -/
theorem we_var {i : Nat} {x : Str} {s : Sl} (hN : X.N[i]? = some x) (hv : Vis X.env.scope x) (hs : z.sl[i]? = some s) (hx : s ≠ .no) (h : Q s z) (hd : (x == ("__debug__" : Str)) = false := by decide) (hcd : (x == ("__classdict__" : Str)) = false := by decide) : WE X (.Name x pos) z Q := by
  intro c w σ k b hk
  obtain ⟨v, e, q⟩ := b.get hs hx
  exact tE_of (pe_var hN hv hd hcd) ⟨v, e, hk v s w z b (.refl w) q h⟩
theorem we_int {i j} (h : Q (.sh (.int i)) z) : WE X (.Constant (.int i) j pos) z Q := fun c w σ k b hk => tE_of pe_int (hk _ _ w z b (.refl w) (vI i) h)
theorem we_bl {i j} (h : Q (.sh (.bool i)) z) : WE X (.Constant (.bool i) j pos) z Q := fun c w σ k b hk => tE_of pe_bl (hk _ _ w z b (.refl w) (vB i) h)
theorem we_non {j} (h : Q (.sh .none) z) : WE X (.Constant .none j pos) z Q := fun c w σ k b hk => tE_of pe_non (hk _ _ w z b (.refl w) vN h)
theorem we_str {i j} (h : Q (.sh (.str i)) z) : WE X (.Constant (.str i) j pos) z Q := fun c w σ k b hk => tE_of pe_str (hk _ _ w z b (.refl w) (vS i) h)
/-- a module's int or text -/
theorem we_gint {x : Str} {i : Int} {t : Tok} (hg : Gl X x) (hm : X.mg x = some (.int i t)) (h : Q (.sh (.int i)) z) (hd : (x == ("__debug__" : Str)) = false := by decide) : WE X (.Name x pos) z Q := fun c w σ k b hk => tE_of (pe_glob (v := .int i) hg hm ⟨t, rfl⟩ hd) (hk _ _ w z b (.refl w) (vI i) h)
theorem we_gstr {x : Str} {i : Str} {t : Tok} (hg : Gl X x) (hm : X.mg x = some (.str i t)) (h : Q (.sh (.str i)) z) (hd : (x == ("__debug__" : Str)) = false := by decide) : WE X (.Name x pos) z Q := fun c w σ k b hk => tE_of (pe_glob (v := .str i) hg hm ⟨t, rfl⟩ hd) (hk _ _ w z b (.refl w) (vS i) h)
/-! two operands -/
theorem bin_ok {r : R2} {f : Value → Value → Sem Value} (hr : r = rB X f) {c : Ct} {w : Wd} {σ : St} {k : VK} (bb : B X.K c w σ z) (hk : Cont X.K c w σ Q k)
    (h : WE X a z fun x z1 => WE X b z1 fun y z2 => RD X f x y z2 Q) : tOp r (tE X a) (tE X b) σ w.H k := by
  subst hr
  exact h c w σ _ bb fun v x w1 z1 b1 l1 q1 h1 => h1 c w1 σ _ b1 fun u y w2 z2 b2 l2 q2 h2 => h2 c w2 σ v u k b2 (q1.mono l2) q2 (hk.le (l1.trans l2))
theorem we_bin {op : Operator} (h : WE X a z fun x z1 => WE X b z1 fun y z2 => RD X (binaryOp op) x y z2 Q) : WE X (.BinOp a op b pos) z Q := fun c w σ k bb hk => tE_of (pe_op rB_op peB peB) (bin_ok rfl bb hk h)
theorem we_cmp {op : CmpOp} (h : WE X a z fun x z1 => WE X b z1 fun y z2 => RD X (compareOp op) x y z2 Q) (hm : behindInMarks op b = false := by first | exact nomark _ | rfl) : WE X (.Compare a [op] [b] pos) z Q := fun c w σ k bb hk => tE_of (pe_cmpR rB_op peB peB hm) (bin_ok rfl bb hk h)
/-- a value that is a truth -/
def Tru (P : Bool → Z → Prop) : Sl → Z → Prop := fun x z => ∃ c, x = .sh (.bool c) ∧ P c z
theorem tru_i {P : Bool → Z → Prop} {c : Bool} (h : P c z) : Tru P (.sh (.bool c)) z := ⟨c, rfl, h⟩
theorem Dp_bl {K : PySem.W.Frag} {H : Hp} {v : V} {c : Bool} (h : Dq K H v (.bool c)) : v = .bl c := by cases h; rfl
theorem Dp_int {K : PySem.W.Frag} {H : Hp} {v : V} {c : Int} (h : Dq K H v (.int c)) : v = .int c := by cases h; rfl
theorem Dp_str {K : PySem.W.Frag} {H : Hp} {v : V} {c : Str} (h : Dq K H v (.str c)) : v = .str c := by cases h; rfl
theorem Dp_non {K : PySem.W.Frag} {H : Hp} {v : V} (h : Dq K H v .none) : v = .non := by cases h; rfl
theorem wt_cmp {op : CmpOp} {P : Bool → Z → Prop} (h : WE X a z fun x z1 => WE X b z1 fun y z2 => RD X (compareOp op) x y z2 (Tru P)) (hm : behindInMarks op b = false := by first | exact nomark _ | rfl) : WT X (.Compare a [op] [b] pos) z P := fun c w σ k bb hk =>
  tT_of (pt_cmpR rB_op peB peB hm) (bin_ok (Q := Tru P) rfl bb (fun v x w' z' b' l r ⟨c, e, hp⟩ => ⟨c, Dp_bl (e ▸ r), hk c w' z' b' l hp⟩) h)
theorem wt_val {P : Bool → Z → Prop} (h : WE X e z (Tru P)) (he : ∀ whole, isTrue e X.env whole = (do let v ← whole; standAt e.pos; holding [v] (truthy v)) := by intro _; rfl) : WT X e z P := fun c w σ k bb hk =>
  tT_of (pt_val peB he) (h c w σ _ bb fun v x w' z' b' l r ⟨c, e, hp⟩ => ⟨c, Dp_bl (e ▸ r), hk c w' z' b' l hp⟩)
theorem wt_not {P : Bool → Z → Prop} (h : WT X a z fun b z1 => P (!b) z1) : WT X (.UnaryOp .Not a pos) z P := fun c w σ k bb hk =>
  tT_of (pt_not ptB) (h c w σ _ bb fun b w' z' b' l hp => hk _ w' z' b' l hp)
theorem wt_ww {P : Bool → Z → Prop} (h : WW X e z P) : WT X e z P := fun c w σ k bb hk => tT_of (PW.pt pwB) (h c w σ _ bb hk)
theorem ww_and1 {P : Bool → Z → Prop} (h : WT X a z P) : WW X (.BoolOp .And [a] pos) z P := fun c w σ k bb hk => tWh_of (pw_and1 ptB) (h c w σ _ bb hk)
theorem ww_or1 {P : Bool → Z → Prop} (h : WT X a z P) : WW X (.BoolOp .Or [a] pos) z P := fun c w σ k bb hk => tWh_of (pw_or1 ptB) (h c w σ _ bb hk)
theorem ww_and {P : Bool → Z → Prop} {rest : List Expr} (h : WT X a z fun c z1 => (c = true → WW X (.BoolOp .And (b :: rest) pos) z1 P) ∧ (c = false → P false z1)) : WW X (.BoolOp .And (a :: b :: rest) pos) z P := fun c w σ k bb hk =>
  tWh_of (pw_and ptB pwB) (h c w σ _ bb fun d w' z' b' l hp => by
    cases d with
    | true =>
      show tWh X _ σ w'.H k
      exact hp.1 rfl c w' σ k b' fun d2 w2 z2 b2 l2 q => hk d2 w2 z2 b2 (l.trans l2) q
    | false =>
      show k false w'.H
      exact hk false w' z' b' l (hp.2 rfl))
theorem ww_or {P : Bool → Z → Prop} {rest : List Expr} (h : WT X a z fun c z1 => (c = true → P true z1) ∧ (c = false → WW X (.BoolOp .Or (b :: rest) pos) z1 P)) : WW X (.BoolOp .Or (a :: b :: rest) pos) z P := fun c w σ k bb hk =>
  tWh_of (pw_or ptB pwB) (h c w σ _ bb fun d w' z' b' l hp => by
    cases d with
    | false =>
      show tWh X _ σ w'.H k
      exact hp.2 rfl c w' σ k b' fun d2 w2 z2 b2 l2 q => hk d2 w2 z2 b2 (l.trans l2) q
    | true =>
      show k true w'.H
      exact hk true w' z' b' l (hp.1 rfl))
/-! and, or, not as values -/
theorem we_one {op} (h : WE X a z Q) : WE X (.BoolOp op [a] pos) z Q := fun c w σ k bb hk => tE_of (pe_one peB) (h c w σ _ bb hk)
theorem we_and {rest : List Expr} (h : WE X a z (Tru fun c z1 => (c = true → WE X (.BoolOp .And (b :: rest) pos) z1 Q) ∧ (c = false → Q (.sh (.bool false)) z1))) : WE X (.BoolOp .And (a :: b :: rest) pos) z Q := fun c w σ k bb hk =>
  tE_of (pe_and peB peB) (h c w σ _ bb fun v x w' z' b' l r ⟨d, e, hp⟩ => ⟨d, Dp_bl (e ▸ r), by
    cases d with
    | true =>
      show tE X _ σ w'.H k
      exact hp.1 rfl c w' σ k b' (hk.le l)
    | false =>
      show k (.bl false) w'.H
      exact hk (.bl false) _ w' z' b' l (vB false) (hp.2 rfl)⟩)
theorem we_or {rest : List Expr} (h : WE X a z (Tru fun c z1 => (c = true → Q (.sh (.bool true)) z1) ∧ (c = false → WE X (.BoolOp .Or (b :: rest) pos) z1 Q))) : WE X (.BoolOp .Or (a :: b :: rest) pos) z Q := fun c w σ k bb hk =>
  tE_of (pe_or peB peB) (h c w σ _ bb fun v x w' z' b' l r ⟨d, e, hp⟩ => ⟨d, Dp_bl (e ▸ r), by
    cases d with
    | false =>
      show tE X _ σ w'.H k
      exact hp.2 rfl c w' σ k b' (hk.le l)
    | true =>
      show k (.bl true) w'.H
      exact hk (.bl true) _ w' z' b' l (vB true) (hp.1 rfl)⟩)
theorem we_not (h : WE X a z (Tru fun c z1 => Q (.sh (.bool (!c))) z1)) : WE X (.UnaryOp .Not a pos) z Q := fun c w σ k bb hk =>
  tE_of (pe_not peB) (h c w σ _ bb fun v x w' z' b' l r ⟨d, e, hp⟩ => ⟨d, Dp_bl (e ▸ r), hk (.bl (!d)) _ w' z' b' l (vB (!d)) hp⟩)
theorem we_ifx {t : Expr} (h : WT X t z fun c z1 => (c = true → WE X a z1 Q) ∧ (c = false → WE X b z1 Q)) : WE X (.IfExp t a b pos) z Q := fun c w σ k bb hk =>
  tE_of (pe_ifExp ptB peB peB) (h c w σ _ bb fun d w' z' b' l hp => by
    cases d with
    | true =>
      show tE X _ σ w'.H k
      exact hp.1 rfl c w' σ k b' (hk.le l)
    | false =>
      show tE X _ σ w'.H k
      exact hp.2 rfl c w' σ k b' (hk.le l))
theorem we_un {op : UnaryOp} (h : WE X a z fun x z1 => UD X (unaryOp op) x z1 Q) : WE X (.UnaryOp op a pos) z Q := fun c w σ k bb hk =>
  tE_of (pe_un uB_op peB) (h c w σ _ bb fun v x w' z' b' l r hu => hu c w' σ v k b' r (hk.le l))
/-! argument lists, displays -/
theorem wa_nil {P : List Sl → Z → Prop} (h : P [] z) : WA X [] z P := fun c w σ k bb hk => tA_of pa_nil (hk [] [] w z bb (.refl w) .nil h)
theorem wa_cons {P : List Sl → Z → Prop} (h : WE X e z fun x z1 => WA X es z1 fun xs z2 => P (x :: xs) z2) (hs : starEach (e :: es) X.env = (false, eval e X.env) :: starEach es X.env := by rfl) : WA X (e :: es) z P := fun c w σ k bb hk =>
  tA_of (pa_cons peB paB hs) (h c w σ _ bb fun v x w1 z1 b1 l1 q1 h1 => h1 c w1 σ _ b1 fun vs xs w2 z2 b2 l2 q2 h2 => hk (v :: vs) (x :: xs) w2 z2 b2 (l1.trans l2) (.cons (q1.mono l2) q2) h2)
def allSh : List Sl → Option (List PyData)
  | [] => some []
  | .sh d :: r => match allSh r with
    | some l => some (d :: l)
    | none => none
  | _ :: _ => none
theorem allSh_inv {d : PyData} {r : List Sl} {ds : List PyData} (e : allSh (.sh d :: r) = some ds) : ∃ l, allSh r = some l ∧ d :: l = ds := by
  unfold allSh at e
  split at e
  · rename_i l h
    exact ⟨l, h, Option.some.inj e⟩
  · cases e
theorem allSh_dp {K : PySem.W.Frag} {w : Wd} : ∀ {xs : List Sl} {ds : List PyData} {vs : List V}, allSh xs = some ds → Paired (Vl K w) vs xs → DqAll K w.S vs ds
  | [], _, _, e, .nil => by
    cases e
    exact .nil
  | .sh d :: r, _, _, e, .cons q t => by
    obtain ⟨ds, e1, rfl⟩ := allSh_inv e
    exact .cons q (allSh_dp e1 t)
theorem dp_allSh {K : PySem.W.Frag} {w : Wd} : ∀ {ds : List PyData} {vs : List V}, DqAll K w.S vs ds → Paired (Vl K w) vs (ds.map Sl.sh)
  | _, _, .nil => .nil
  | _, _, .cons h t => .cons h (dp_allSh t)
theorem allSh_map (ds : List PyData) : allSh (ds.map Sl.sh) = some ds := by
  induction ds with
  | nil => rfl
  | cons d r ih =>
    show (match allSh (r.map Sl.sh) with | some l => some (d :: l) | none => none) = _
    rw [ih]
theorem allSh_len : ∀ {xs : List Sl} {ds : List PyData}, allSh xs = some ds → ds.length = xs.length
  | [], _, e => by
    cases e
    rfl
  | .sh d :: r, _, e => by
    obtain ⟨ds, e1, rfl⟩ := allSh_inv e
    simp [allSh_len e1]
/-- a new tuple, a new list that stays -/
theorem new_tup {K : PySem.W.Frag} {c : Ct} {w : Wd} {σ : St} {k : VK} {vs : List V} {ds : List PyData} (bb : B K c w σ z) (hv : DqAll K w.S vs ds) (hk : Cont K c w σ Q k) (h : Q (.sh (.tuple ds)) z) : ∀ p, w.H p = none → k (.ref p) (upd w.H p (.tup vs)) := fun p hp => by
  have l : w.Le ⟨w.rho, upd w.S p (.tup vs), upd w.H p (.tup vs)⟩ := le_new (bb.freshS hp)
  exact hk (.ref p) (.sh (.tuple ds)) ⟨w.rho, upd w.S p (.tup vs), upd w.H p (.tup vs)⟩ z (bb.newS hp) l (Dq.tup (.inl (.inl upd_same)) (DpAll_mono l.st hv)) h
theorem new_lstF {K : PySem.W.Frag} {c : Ct} {w : Wd} {σ : St} {k : VK} {vs : List V} {ds : List PyData} (bb : B K c w σ z) (hv : DqAll K w.S vs ds) (hk : Cont K c w σ Q k) (h : Q (.sh (.list ds)) z) : ∀ p, w.H p = none → k (.ref p) (upd w.H p (.lst vs)) := fun p hp => by
  have l : w.Le ⟨w.rho, upd w.S p (.lst vs), upd w.H p (.lst vs)⟩ := le_new (bb.freshS hp)
  exact hk (.ref p) (.sh (.list ds)) ⟨w.rho, upd w.S p (.lst vs), upd w.H p (.lst vs)⟩ z (bb.newS hp) l (Dq.lst (.inl upd_same) (DpAll_mono l.st hv)) h
theorem new_lst {K : PySem.W.Frag} {c : Ct} {w : Wd} {σ : St} {k : VK} {vs : List V} {xs : List Sl} (bb : B K c w σ z) (hv : Paired (Vl K w) vs xs) (hk : Cont K c w σ Q k) (h : Q (.ob z.ob.length) ⟨z.sl, z.ob ++ [.lst xs]⟩) : ∀ p, w.H p = none → k (.ref p) (upd w.H p (.lst vs)) := fun p hp => by
  refine hk (.ref p) (.ob z.ob.length) ⟨w.rho ++ [p], w.S, upd w.H p (.lst vs)⟩ _ (bb.newO hp hv) le_obj ⟨p, ?_, rfl⟩ h
  show (w.rho ++ [p])[z.ob.length]? = some p
  rw [← bb.len, List.getElem?_append_right (Nat.le_refl _), Nat.sub_self]
  rfl
theorem we_tup {x1} (h : WA X es z fun xs z1 => ∃ ds, allSh xs = some ds ∧ xs.length ≤ 100000 ∧ Q (.sh (.tuple ds)) z1) : WE X (.Tuple es x1 pos) z Q := fun c w σ k bb hk =>
  tE_of (pe_tup paB) (h c w σ _ bb fun vs xs w' z' b' l r ⟨ds, e, hl, hq⟩ => ⟨by rw [r.length]; exact Nat.le_trans hl (by decide), new_tup b' (allSh_dp e r) (hk.le l) hq⟩)
theorem we_lstF (h : WA X es z fun xs z1 => ∃ ds, allSh xs = some ds ∧ xs.length ≤ 100000 ∧ Q (.sh (.list ds)) z1) : WE X (.List es pos) z Q := fun c w σ k bb hk =>
  tE_of (pe_lst paB) (h c w σ _ bb fun vs xs w' z' b' l r ⟨ds, e, hl, hq⟩ => ⟨by rw [r.length]; exact Nat.le_trans hl (by decide), new_lstF b' (allSh_dp e r) (hk.le l) hq⟩)
theorem we_lst (h : WA X es z fun xs z1 => xs.length ≤ 100000 ∧ Q (.ob z1.ob.length) ⟨z1.sl, z1.ob ++ [.lst xs]⟩) : WE X (.List es pos) z Q := fun c w σ k bb hk =>
  tE_of (pe_lst paB) (h c w σ _ bb fun vs xs w' z' b' l r ⟨hl, hq⟩ => ⟨by rw [r.length]; exact Nat.le_trans hl (by decide), new_lst b' r (hk.le l) hq⟩)
end
end Dl

namespace Dl
open PySem PySem.Spec L2
open PyProof.Rows hiding St

/-! ### contexts within contexts; a thing aside -/
section
variable {K : PySem.W.Frag} {c : Ct} {w w' : Wd} {σ σ' : St} {z z' : Z}
def Wd.ct (w : Wd) : Ct := ⟨w.S, w.H, w.rho⟩
theorem B.self (b : B K c w σ z) : B K w.ct w σ z := ⟨b.same, b.len, b.nd, b.tr, b.sl, b.ob, fun _ _ h => h, fun _ _ h _ => h, fun a o h => .inl (by
  show w.S a ≠ none
  rw [h]
  simp), Same.refl _, fun i p hi e => by
    have h1 : i < w.rho.length := (List.getElem?_eq_some_iff.mp e).1
    exact absurd h1 (Nat.not_lt.mpr hi)⟩
theorem B.comp (b : B K c w σ z) (b' : B K w.ct w' σ' z') : B K c w' σ' z' := by
  refine ⟨b'.same, b'.len, b'.nd, b'.tr, b'.sl, b'.ob, fun i p h => b'.pre i p (b.pre i p h), fun a o h hn => ?_, fun a o h => ?_, b.st.trans b'.st, fun i p hi h => ?_⟩
  · by_cases ha : a ∈ w.rho
    · obtain ⟨i, hi⟩ := List.getElem?_of_mem ha
      by_cases hlt : i < c.rho.length
      · have e5 : c.rho[i]? = some c.rho[i] := List.getElem?_eq_getElem hlt
        have e6 := b.pre i _ e5
        rw [hi] at e6
        exact absurd (Option.some.inj e6 ▸ List.getElem_mem hlt) hn
      · have e6 := b.nr i a (by omega) hi
        rw [h] at e6
        cases e6
    · exact b'.fr a o (b.fr a o h hn) ha
  · rcases b'.nw a o h with q | q
    · cases e : w.S a with
      | none => exact absurd e q
      | some u => exact b.nw a u e
    · exact .inr (b.fresh q)
  · by_cases hlt : i < w.rho.length
    · have e : w.rho[i]? = some w.rho[i] := List.getElem?_eq_getElem hlt
      have e2 := b'.pre i _ e
      rw [h] at e2
      have e3 : p = w.rho[i] := Option.some.inj e2
      rw [← e3] at e
      exact b.nr i p hi e
    · have h2 : w.H p = none := b'.nr i p (Nat.not_lt.mp hlt) h
      exact b.fresh h2
theorem B.le (b : B K w.ct w' σ z) : w.Le w' := ⟨b.st, b.pre⟩
/-- a thing aside, tracked, none of the store's, not staying -/
structure Aside (c : Ct) (w : Wd) (D : Addr) : Prop where
  nr : D ∉ w.rho
  nS : w.S D = none
  nc : c.H D = none
theorem le_aside {D : Addr} {o : HO} : w.Le ⟨w.rho, w.S, upd w.H D o⟩ := ⟨Same.refl _, fun _ _ e => e⟩
theorem B.aside (b : B K c w σ z) {D : Addr} {o : HO} (h : Aside c w D) : B K c ⟨w.rho, w.S, upd w.H D o⟩ σ z := by
  have l : w.Le ⟨w.rho, w.S, upd w.H D o⟩ := le_aside
  refine ⟨fun a u e => ?_, b.len, b.nd, fun q hq => ?_, b.sl.mono fun _ _ q => q.mono l, fun i x q h1 h2 => ?_, b.pre, fun a u e hn => ?_, b.nw, b.st, b.nr⟩
  · show upd w.H D o a = some u
    rw [upd_ne (ne_of_none e h.nS)]
    exact b.same a u e
  · show upd w.H D o q ≠ none
    have hqD : q ≠ D := fun e => h.nr (e ▸ hq)
    rw [upd_ne hqD]
    exact b.tr q hq
  · have hq : q ≠ D := fun e => h.nr (e ▸ List.mem_of_getElem? h2)
    exact (b.ob i x q h1 h2).mono l (fun e => e) (by
      show upd w.H D o q = w.H q
      rw [upd_ne hq])
  · show upd w.H D o a = some u
    rw [upd_ne (ne_of_none e h.nc)]
    exact b.fr a u e hn
theorem B.asideNew (b : B K c w σ z) {D : Addr} (h : w.H D = none) : Aside c w D := ⟨fun hq => b.tr D hq h, b.freshS h, b.fresh h⟩
/-- it comes to stay -/
theorem le_stay {D : Addr} {o : HO} (h : w.S D = none) : w.Le ⟨w.rho, upd w.S D o, w.H⟩ := ⟨fun a u e => by
  show upd w.S D o a = some u
  rw [upd_ne (ne_of_none e h)]
  exact e, fun _ _ e => e⟩
theorem B.stay (b : B K c w σ z) {D : Addr} {o : HO} (h : Aside c w D) (hH : w.H D = some o) : B K c ⟨w.rho, upd w.S D o, w.H⟩ σ z := by
  have l : w.Le ⟨w.rho, upd w.S D o, w.H⟩ := le_stay h.nS
  refine ⟨fun a u e => ?_, b.len, b.nd, b.tr, b.sl.mono fun _ _ q => q.mono l, fun i x q h1 h2 => ?_, b.pre, b.fr, fun a u e => ?_, b.st.trans l.st, b.nr⟩
  · have e : upd w.S D o a = some u := e
    show w.H a = some u
    by_cases ha : a = D
    · subst ha
      rw [upd_same] at e
      rw [hH, e]
    · rw [upd_ne ha] at e
      exact b.same a u e
  · have hq : q ≠ D := fun e => h.nr (e ▸ List.mem_of_getElem? h2)
    exact (b.ob i x q h1 h2).mono l (fun e => by
      show upd w.S D o q = none
      rw [upd_ne hq]
      exact e) rfl
  · have e : upd w.S D o a = some u := e
    by_cases ha : a = D
    · exact .inr (ha ▸ h.nc)
    · rw [upd_ne ha] at e
      exact b.nw a u e
/-- it comes into the store -/
theorem le_push {ps : List Addr} : w.Le ⟨w.rho ++ ps, w.S, w.H⟩ := ⟨Same.refl _, fun i q e => by
  show (w.rho ++ ps)[i]? = some q
  rw [List.getElem?_append_left (List.getElem?_eq_some_iff.mp e).1]
  exact e⟩
theorem B.push (b : B K c w σ z) {D : Addr} {vs : List V} {xs : List Sl} (h : Aside c w D) (hH : w.H D = some (.lst vs)) (hv : Paired (Vl K w) vs xs) : B K c ⟨w.rho ++ [D], w.S, w.H⟩ σ ⟨z.sl, z.ob ++ [.lst xs]⟩ := by
  have l : w.Le ⟨w.rho ++ [D], w.S, w.H⟩ := le_push
  refine ⟨b.same, ?_, ?_, fun q hq => ?_, b.sl.mono fun _ _ q => q.mono l, fun i x q h1 h2 => ?_, fun i q e => l.rho i q (b.pre i q e), b.fr, b.nw, b.st, fun i q hi e => ?_⟩
  · show (w.rho ++ [D]).length = (z.ob ++ [OO.lst xs]).length
    rw [List.length_append, List.length_append, b.len]
    rfl
  · exact List.nodup_append.mpr ⟨b.nd, by simp, fun a ha q hq => by
      rw [List.mem_singleton] at hq
      subst hq
      exact fun e => h.nr (e ▸ ha)⟩
  · show w.H q ≠ none
    rcases List.mem_append.mp hq with hq | hq
    · exact b.tr q hq
    · rw [List.mem_singleton] at hq
      rw [hq, hH]
      simp
  · have h1 : (z.ob ++ [OO.lst xs])[i]? = some x := h1
    have h2 : (w.rho ++ [D])[i]? = some q := h2
    by_cases hi : i < w.rho.length
    · rw [List.getElem?_append_left hi] at h2
      rw [List.getElem?_append_left (b.len ▸ hi)] at h1
      exact (b.ob i x q h1 h2).mono l (fun e => e) rfl
    · have hi2 : i = w.rho.length := by
        have := (List.getElem?_eq_some_iff.mp h2).1
        rw [List.length_append] at this
        simp at this
        omega
      subst hi2
      rw [List.getElem?_append_right (Nat.le_refl _), Nat.sub_self] at h2
      rw [b.len, List.getElem?_append_right (Nat.le_refl _), Nat.sub_self] at h1
      cases h1
      cases h2
      exact ⟨h.nS, vs, hH, hv.mono fun _ _ q => q.mono l⟩
  · have e : (w.rho ++ [D])[i]? = some q := e
    by_cases hi2 : i < w.rho.length
    · rw [List.getElem?_append_left hi2] at e
      exact b.nr i q hi e
    · have : q ∈ [D] := by
        rw [List.getElem?_append_right (by omega)] at e
        exact List.mem_of_getElem? e
      rw [List.mem_singleton] at this
      subst this
      exact h.nc
/-- behind a piece that was entered here it is as it was -/
theorem Aside.on {D : Addr} {o : HO} (b : B K c w σ z) (h : Aside c w D) (hH : w.H D = some o) (b' : B K w.ct w' σ' z') : Aside c w' D ∧ w'.H D = some o := by
  refine ⟨⟨fun hq => ?_, ?_, h.nc⟩, b'.fr D o hH h.nr⟩
  · obtain ⟨i, hi⟩ := List.getElem?_of_mem hq
    by_cases hlt : i < w.rho.length
    · have e : w.rho[i]? = some w.rho[i] := List.getElem?_eq_getElem hlt
      have e2 := b'.pre i _ e
      rw [hi] at e2
      exact h.nr (Option.some.inj e2 ▸ List.getElem_mem hlt)
    · have h2 : w.H D = none := b'.nr i D (Nat.not_lt.mp hlt) hi
      rw [hH] at h2
      cases h2
  · cases e : w'.S D with
    | none => rfl
    | some u =>
      rcases b'.nw D u e with q | q
      · exact absurd h.nS q
      · have q : w.H D = none := q
        rw [hH] at q
        cases q
end

/-! ### statements -/
section
variable {X : Cx} {e a b : Expr} {es : List Expr} {z : Z} {pos : Pos} {Q Q' : Out → Prop} {st : Stmt} {rest body orelse : List Stmt}
def Seq (X : Cx) (rest : List Stmt) (Q : Out → Prop) : Out → Prop
  | .nx z => WS X rest z Q
  | o => Q o
theorem seq_nx (h : WS X rest z Q) : Seq X rest Q (.nx z) := h
theorem seq_rt {x : Sl} (h : Q (.rt x z)) : Seq X rest Q (.rt x z) := h
theorem seq_bk (h : Q (.bk z)) : Seq X rest Q (.bk z) := h
theorem seq_ct (h : Q (.ct z)) : Seq X rest Q (.ct z) := h
theorem ws_nil (h : Q (.nx z)) : WS X [] z Q := fun c w σ D bb hk => tSs_of pss_nil (hk.nx w σ z bb (.refl w) h)
theorem ws_cons (h : W1 X st z (Seq X rest Q)) : WS X (st :: rest) z Q := fun c w σ D bb hk => tSs_of (pss_cons psB pssB) (h c w σ { D with nx := fun σ' H' => tSs X rest D σ' H' } bb
  ⟨fun w' σ' z' b' l q => q c w' σ' D b' (hk.le l), fun v x w' σ' z' b' l r q => hk.rt v x w' σ' z' b' l r q, fun w' σ' z' b' l q => hk.bk w' σ' z' b' l q, fun w' σ' z' b' l q => hk.ct w' σ' z' b' l q⟩)
theorem w1_pass (h : Q (.nx z)) : W1 X (.Pass pos) z Q := fun c w σ D bb hk => tS_of ps_pass (hk.nx w σ z bb (.refl w) h)
theorem w1_break (h : Q (.bk z)) : W1 X (.Break pos) z Q := fun c w σ D bb hk => tS_of ps_break (hk.bk w σ z bb (.refl w) h)
theorem w1_cont (h : Q (.ct z)) : W1 X (.Continue pos) z Q := fun c w σ D bb hk => tS_of ps_continue (hk.ct w σ z bb (.refl w) h)
theorem w1_doc {x j pos'} (h : Q (.nx z)) : W1 X (.Expr (.Constant (.str x) j pos) pos') z Q := fun c w σ D bb hk => tS_of ps_doc (hk.nx w σ z bb (.refl w) h)
theorem w1_expr (h : WE X e z fun _ z1 => Q (.nx z1)) (hs : swapsWith e none pos.line X.env = pure false := by rfl) : W1 X (.Expr e pos) z Q := fun c w σ D bb hk =>
  tS_of (ps_expr peB hs) (h c w σ _ bb fun v x w' z' b' l r q => hk.nx w' σ z' b' l q)
theorem w1_ret (h : WE X e z fun x z1 => Q (.rt x z1)) : W1 X (.Return (some e) pos) z Q := fun c w σ D bb hk =>
  tS_of (ps_ret peB) (h c w σ _ bb fun v x w' z' b' l r q => hk.rt v x w' σ z' b' l r q)
theorem w1_retN (h : Q (.rt (.sh .none) z)) : W1 X (.Return none pos) z Q := fun c w σ D bb hk => tS_of ps_retN (hk.rt .non _ w σ z bb (.refl w) vN h)
theorem w1_set {i : Nat} {y : Str} {pos' : Pos} (hN : X.N.Nodup) (hi : X.N[i]? = some y) (hx : Loc X.env.scope y) (h : WE X e z fun x z1 => Q (.nx ⟨z1.sl.set i x, z1.ob⟩)) (hs : swapsWith e (some (.Name y pos')) pos.line X.env = pure false := by rfl)
    (hf : X.fn y = true ∨ X.env.scope.names.lookup y = some .local := by first | exact .inl rfl | exact .inr rfl) : W1 X (.Assign [.Name y pos'] e pos) z Q := fun c w σ D bb hk =>
  tS_of (ps_set hN hi hx peB hs hf) (h c w σ _ bb fun v x w' z' b' l r q => hk.nx w' _ _ (b'.setSl r) l q)
theorem w1_if {t : Expr} (h : WT X t z fun d z1 => (d = true → WS X body z1 Q) ∧ (d = false → WS X orelse z1 Q)) : W1 X (.If t body orelse pos) z Q := fun c w σ D bb hk =>
  tS_of (ps_if ptB pssB pssB) (h c w σ _ bb fun d w' z' b' l hp => by
    cases d with
    | true =>
      show tSs X body D σ w'.H
      exact hp.1 rfl c w' σ D b' (hk.le l)
    | false =>
      show tSs X orelse D σ w'.H
      exact hp.2 rfl c w' σ D b' (hk.le l))
def LoopQ (N : Z → Prop) (Q : Out → Prop) : Out → Prop
  | .nx z => N z
  | .ct z => N z
  | .bk z => Q (.nx z)
  | .rt x z => Q (.rt x z)
theorem w1_while {t : Expr} (I : Nat → Z → Prop) {m : Nat} (h0 : I m z) (h : ∀ n z, I n z → WT X t z fun d z1 => (d = true → WS X body z1 (LoopQ (fun z2 => ∃ n', n' < n ∧ I n' z2) Q)) ∧ (d = false → Q (.nx z1)))
    (hp : PassesOwn (model X.prog X.w) X.A X.env X.xe := by exact PassesOwn.never) : W1 X (.While t body [] pos) z Q := fun c w σ D bb hk =>
  tS_of (ps_while hp ptB pssB) ⟨fun n σ' H' => ∃ w' z', B X.K c w' σ' z' ∧ w.Le w' ∧ w'.H = H' ∧ I n z', ⟨m, w, z, bb, .refl w, rfl, h0⟩, by
    rintro n σ1 H1 ⟨w1, z1, b1, l1, rfl, hI⟩
    refine h n z1 hI c w1 σ1 _ b1 fun d w2 z2 b2 l2 hp => ?_
    cases d with
    | true =>
      show ∃ N : St → Hp → Prop, _
      refine ⟨fun σ' H' => ∃ n', n' < n ∧ ∃ w' z', B X.K c w' σ' z' ∧ w.Le w' ∧ w'.H = H' ∧ I n' z', fun σ' H' ⟨n', hn, q⟩ => ⟨n', hn, q⟩, ?_⟩
      have l3 := l1.trans l2
      exact hp.1 rfl c w2 σ1 _ b2 ⟨fun w' σ' z' b' l ⟨n', hn, q⟩ => ⟨n', hn, w', z', b', l3.trans l, rfl, q⟩, fun v x w' σ' z' b' l r q => hk.rt v x w' σ' z' b' (l3.trans l) r q,
        fun w' σ' z' b' l q => hk.nx w' σ' z' b' (l3.trans l) q, fun w' σ' z' b' l ⟨n', hn, q⟩ => ⟨n', hn, w', z', b', l3.trans l, rfl, q⟩⟩
    | false =>
      show D.nx σ1 w2.H
      exact hk.nx w2 σ1 z2 b2 (l1.trans l2) (hp.2 rfl)⟩
end

/-! ### targets -/
def GD (K : PySem.W.Frag) (vs : List Nat) (g : TG) (y : Sl) (z : Z) (Q : Z → Prop) : Prop := ∀ c w σ v (k : St → Hp → Prop), B K c w σ z → Vl K w v y → (∀ w' σ' z', B K c w' σ' z' → w.Le w' → wipe σ' vs = wipe σ vs → Q z' → k σ' w'.H) → g v σ w.H k
theorem wipe_set : ∀ (vs : List Nat) (σ : St) (i : Nat) (o : Option V), i ∈ vs → wipe (σ.set i o) vs = wipe σ vs
  | v :: vs, σ, i, o, h => by
    show (wipe (σ.set i o) vs).set v none = (wipe σ vs).set v none
    by_cases hi : i ∈ vs
    · rw [wipe_set vs σ i o hi]
    · have hv : i = v := by
        rcases List.mem_cons.mp h with h | h
        · exact h
        · exact absurd h hi
      subst hv
      have e : ∀ (us : List Nat) (τ : St), wipe (τ.set i o) us = (wipe τ us).set i o ∨ wipe (τ.set i o) us = wipe τ us := fun us => by
        induction us with
        | nil => exact fun τ => .inl rfl
        | cons u us ih =>
          intro τ
          show (wipe (τ.set i o) us).set u none = _ ∨ (wipe (τ.set i o) us).set u none = _
          rcases ih τ with q | q
          · rw [q]
            by_cases hu : i = u
            · subst hu
              right
              show _ = (wipe τ us).set i none
              rw [List.set_set]
            · left
              show _ = ((wipe τ us).set u none).set i o
              rw [List.set_comm _ _ hu]
          · right
            rw [q]
            rfl
      rcases e vs σ with q | q
      · rw [q, List.set_set]
      · rw [q]
theorem gd_name {K : PySem.W.Frag} {vs : List Nat} {i : Nat} {y : Sl} {z : Z} {Q : Z → Prop} (hi : i ∈ vs) (h : Q ⟨z.sl.set i y, z.ob⟩) : GD K vs (gName i) y z Q := fun c w σ v k bb r hk => hk w _ _ (bb.setSl r) (.refl w) (wipe_set vs σ i _ hi) h
/-- several names -/
def gNames : List Nat → TGs
  | [] => gNil
  | i :: is => gCons (gName i) (gNames is)
def setSls (sl : List Sl) : List Nat → List PyData → List Sl
  | i :: is, d :: ds => setSls (sl.set i (.sh d)) is ds
  | _, _ => sl
theorem gds_names {K : PySem.W.Frag} {vs : List Nat} {Q : Z → Prop} : ∀ {is : List Nat} {ds : List PyData} {z : Z}, (∀ i ∈ is, i ∈ vs) → ds.length = is.length → Q ⟨setSls z.sl is ds, z.ob⟩ →
    ∀ c w σ us (k : St → Hp → Prop), B K c w σ z → DqAll K w.S us ds → (∀ σ' z', B K c w σ' z' → wipe σ' vs = wipe σ vs → Q z' → k σ' w.H) → gNames is us σ w.H k
  | [], [], z, hv, hl, h, c, w, σ, us, k, bb, r, hk => by
    cases r
    exact ⟨rfl, hk σ z bb rfl h⟩
  | i :: is, d :: ds, z, hv, hl, h, c, w, σ, us, k, bb, r, hk => by
    cases r with
    | cons r rs =>
      refine ⟨_, _, rfl, ?_⟩
      have bb2 := bb.setSl (i := i) (vsh r)
      exact gds_names (z := ⟨z.sl.set i (.sh d), z.ob⟩) (fun j hj => hv j (List.mem_cons_of_mem _ hj)) (by simpa using hl) h c w _ _ k bb2 rs fun σ' z' b' e q => hk σ' z' b' (e.trans (wipe_set vs σ i _ (hv i List.mem_cons_self))) q
theorem Dp_tupI {K : PySem.W.Frag} {H : Hp} {v : V} {ds : List PyData} (h : Dq K H v (.tuple ds)) : ∃ a xs, v = .ref a ∧ SqT K H a xs ∧ DqAll K H xs ds := by
  cases h with
  | tup h hs => exact ⟨_, _, rfl, h, hs⟩
theorem Dp_lstI {K : PySem.W.Frag} {H : Hp} {v : V} {ds : List PyData} (h : Dq K H v (.list ds)) : ∃ a xs, v = .ref a ∧ Rd H a (.lst xs) ∧ DqAll K H xs ds := by
  cases h with
  | lst h hs => exact ⟨_, _, rfl, h, hs⟩
theorem DpAll_len {K : PySem.W.Frag} {H : Hp} : ∀ {vs : List V} {ds : List PyData}, DqAll K H vs ds → vs.length = ds.length
  | _, _, .nil => rfl
  | _, _, .cons _ t => by simp [DpAll_len t]
theorem gd_tup {K : PySem.W.Frag} {vs is : List Nat} {n : Nat} {y : Sl} {ds : List PyData} {z : Z} {Q : Z → Prop} (hy : y = .sh (.tuple ds)) (hv : ∀ i ∈ is, i ∈ vs) (hl : ds.length = is.length) (hn : is.length = n) (h : Q ⟨setSls z.sl is ds, z.ob⟩) : GD K vs (gTup K n (gNames is)) y z Q := by
  subst hy
  intro c w σ v k bb r hk
  obtain ⟨a, xs, rfl, hq, hs⟩ := Dp_tupI r
  exact ⟨a, xs, rfl, Same.tup bb.same hq, by rw [DpAll_len hs, hl, hn], gds_names hv hl h c w σ xs k bb hs fun σ' z' b' e q => hk w σ' z' b' (.refl w) e q⟩

/-! ### what is walked -/
structure DW (K : PySem.W.Frag) (c : Ct) (w0 : Wd) (J : It) (G : Z → Prop) (ys : List Sl) : Prop where
  goes : ∀ (i : Nat) (c' : Ct) (w : Wd) (σ : St) (z : Z), i < ys.length → B K c' w σ z → w0.Le w → G z → J.go i w.H
  stops : ∀ (c' : Ct) (w : Wd) (σ : St) (z : Z), B K c' w σ z → w0.Le w → G z → J.stop ys.length w.H
  yields : ∀ (i : Nat) (c' : Ct) (w : Wd) (σ : St) (z : Z) (x : V) (H' : Hp) (y : Sl), ys[i]? = some y → B K c' w σ z → w0.Le w → G z → J.yld i w.H x H' → ∃ w', w'.H = H' ∧ B K c' w' σ z ∧ w.Le w' ∧ Vl K w' x y
def tI (X : Cx) (tg iter : Expr) : TI := fun σ H R => ∀ (pins : List (Addr × Obj)) (s : Shared), Inv X pins σ H s →
    wpAny (model X.prog X.w) X.A (eval iter X.env) (fun v s1 => wpAny (model X.prog X.w) X.A (pyIter v) (PIE X pins σ tg R) X.xe s1) X.xe s
theorem piB {X : Cx} {tg iter : Expr} : PI X tg iter (tI X tg iter) := ⟨fun pins s _ _ _ I h => h pins s I⟩
theorem tI_of {X : Cx} {tg iter : Expr} {t : TI} {σ : St} {H : Hp} {R : It → Hp → Prop} (p : PI X tg iter t) (h : t σ H R) : tI X tg iter σ H R := fun pins s I => p.run pins s σ H R I h
def WI (X : Cx) (tg iter : Expr) (z : Z) (R : List Sl → (Z → Prop) → Z → Prop) : Prop := ∀ c w σ (k : It → Hp → Prop), B X.K c w σ z →
  (∀ J ys G w1 z1, B X.K c w1 σ z1 → w.Le w1 → DW X.K c w1 J G ys → R ys G z1 → k J w1.H) → tI X tg iter σ w.H k
section
variable {X : Cx} {tg iter e : Expr} {z : Z} {pos : Pos} {R : List Sl → (Z → Prop) → Z → Prop}
/-- a list: data that stays | an object -/
inductive LstAt (z : Z) : Sl → List Sl → (Z → Prop) → Prop
  | sh (ds : List PyData) : LstAt z (.sh (.list ds)) (ds.map .sh) (fun _ => True)
  | ob (i : Nat) (xs : List Sl) : z.ob[i]? = some (.lst xs) → LstAt z (.ob i) xs (fun z' => z'.ob[i]? = some (.lst xs))
theorem wi_list (h : WE X iter z fun x z1 => ∃ ys G, LstAt z1 x ys G ∧ R ys G z1) : WI X tg iter z R := fun c w σ k bb hk =>
  tI_of (pi_list peB) (h c w σ _ bb fun v x w1 z1 b1 l1 r1 ⟨ys, G, hL, hR⟩ => by
    cases hL with
    | sh ds =>
      obtain ⟨a, xs, rfl, hq, hs⟩ := Dp_lstI r1
      have hlen : xs.length = (ds.map Sl.sh).length := by rw [List.length_map, DpAll_len hs]
      refine ⟨a, rfl, ⟨xs, b1.same.seq (.inl hq)⟩, hk (Itl X.K a) _ _ w1 z1 b1 l1 ⟨fun i c' w2 σ2 z2 hi b2 l2 _ => ?_, fun c' w2 σ2 z2 b2 l2 _ => ?_, fun i c' w2 σ2 z2 x H' y hy b2 l2 _ ⟨e, hx⟩ => ?_⟩ hR⟩
      · rw [← hlen] at hi
        exact ⟨xs, xs[i], b2.same.seq (l2.st.seq (.inl hq)), List.getElem?_eq_getElem hi⟩
      · exact ⟨xs, b2.same.seq (l2.st.seq (.inl hq)), by rw [hlen]; exact Nat.le_refl _⟩
      · obtain ⟨v, e1, q1⟩ := paired_get (dp_allSh (w := w1) hs) hy
        have e2 := hx xs (b2.same.seq (l2.st.seq (.inl hq)))
        rw [e1] at e2
        cases e2
        exact ⟨w2, e.symm, b2, .refl w2, q1.mono l2⟩
    | ob i xs hi =>
      obtain ⟨a, ha, rfl⟩ := r1
      obtain ⟨_, us, hu, hp⟩ := b1.ob i _ a hi ha
      refine ⟨a, rfl, ⟨us, .inl (.inl hu)⟩, hk (Itl X.K a) _ _ w1 z1 b1 l1 ⟨fun j c' w2 σ2 z2 hj b2 l2 hG => ?_, fun c' w2 σ2 z2 b2 l2 hG => ?_, fun j c' w2 σ2 z2 x H' y hy b2 l2 hG ⟨e, hx⟩ => ?_⟩ hR⟩
      · obtain ⟨_, us2, hu2, hp2⟩ := b2.ob i _ a hG (l2.rho i a ha)
        rw [← hp2.length] at hj
        exact ⟨us2, us2[j], .inl (.inl hu2), List.getElem?_eq_getElem hj⟩
      · obtain ⟨_, us2, hu2, hp2⟩ := b2.ob i _ a hG (l2.rho i a ha)
        exact ⟨us2, .inl (.inl hu2), by rw [hp2.length]; exact Nat.le_refl _⟩
      · obtain ⟨_, us2, hu2, hp2⟩ := b2.ob i _ a hG (l2.rho i a ha)
        obtain ⟨v, e1, q1⟩ := paired_get hp2 hy
        have e2 := hx us2 (.inl (.inl hu2))
        rw [e1] at e2
        cases e2
        exact ⟨w2, e.symm, b2, .refl w2, q1⟩)
theorem wi_tup (h : WE X iter z fun x z1 => ∃ ds, x = .sh (.tuple ds) ∧ R (ds.map .sh) (fun _ => True) z1) : WI X tg iter z R := fun c w σ k bb hk =>
  tI_of (pi_tup peB) (h c w σ _ bb fun v x w1 z1 b1 l1 r1 ⟨ds, hL, hR⟩ => by
    subst hL
    obtain ⟨a, xs, rfl, hq, hs⟩ := Dp_tupI r1
    have hlen : xs.length = (ds.map Sl.sh).length := by rw [List.length_map, DpAll_len hs]
    refine ⟨a, rfl, ⟨xs, Same.tup b1.same hq⟩, hk (Itt X.K a) _ _ w1 z1 b1 l1 ⟨fun i c' w2 σ2 z2 hi b2 l2 _ => ?_, fun c' w2 σ2 z2 b2 l2 _ => ?_, fun i c' w2 σ2 z2 x H' y hy b2 l2 _ ⟨e, hx⟩ => ?_⟩ hR⟩
    · rw [← hlen] at hi
      exact ⟨xs, xs[i], Same.tup b2.same (Same.tup l2.st hq), List.getElem?_eq_getElem hi⟩
    · exact ⟨xs, Same.tup b2.same (Same.tup l2.st hq), by rw [hlen]; exact Nat.le_refl _⟩
    · obtain ⟨v, e1, q1⟩ := paired_get (dp_allSh (w := w1) hs) hy
      have e2 := hx xs (Same.tup b2.same (Same.tup l2.st hq))
      rw [e1] at e2
      cases e2
      exact ⟨w2, e.symm, b2, .refl w2, q1.mono l2⟩)
def rngL (lo : Int) (n : Nat) : List Sl := (List.range n).map fun (k : Nat) => .sh (.int (lo + (k : Int)))
theorem dw_rng {K : PySem.W.Frag} {c : Ct} {w : Wd} {lo : Int} {n : Nat} : DW K c w (Itr lo n) (fun _ => True) (rngL lo n) := by
  have hl : (rngL lo n).length = n := by simp [rngL]
  refine ⟨fun i c' w2 σ2 z2 hi b2 l2 _ => ?_, fun c' w2 σ2 z2 b2 l2 _ => ?_, fun i c' w2 σ2 z2 x H' y hy b2 l2 _ ⟨e, hx⟩ => ?_⟩
  · rw [hl] at hi
    exact hi
  · rw [hl]
    exact Nat.le_refl _
  · subst hx
    have hi : i < n := by
      have := (List.getElem?_eq_some_iff.mp hy).1
      rw [hl] at this
      exact this
    unfold rngL at hy
    rw [List.getElem?_map, List.getElem?_range hi] at hy
    cases hy
    exact ⟨w2, e.symm, b2, .refl w2, vI _⟩
theorem wi_rng1 {p : Pos} (hg : Gl X "range") (hm : X.mg "range" = none) (h : WE X e z fun x z1 => ∃ n : Int, x = .sh (.int n) ∧ -(2 ^ 62) ≤ n ∧ n < 2 ^ 62 ∧ R (rngL 0 n.toNat) (fun _ => True) z1) (hs : starEach [e] X.env = [(false, eval e X.env)] := by rfl) :
    WI X tg (.Call (.Name "range" p) [e] [] pos) z R := fun c w σ k bb hk =>
  tI_of (pi_range1 hg hm (pa_cons peB pa_nil hs) hs) (h c w σ _ bb fun v x w1 z1 b1 l1 r1 ⟨n, e, h1, h2, hR⟩ => by
    subst e
    cases Dp_int r1
    exact ⟨n, rfl, h1, h2, hk _ _ _ w1 z1 b1 l1 dw_rng hR⟩)
theorem wi_rng2 {a b : Expr} {p : Pos} (hg : Gl X "range") (hm : X.mg "range" = none) (h : WE X a z fun x z1 => WE X b z1 fun y z2 => ∃ i j : Int, x = .sh (.int i) ∧ y = .sh (.int j) ∧ (-(2 ^ 62) ≤ i ∧ i < 2 ^ 62 ∧ -(2 ^ 62) ≤ j ∧ j < 2 ^ 62) ∧ R (rngL i (j - i).toNat) (fun _ => True) z2)
    (hs : starEach [a, b] X.env = [(false, eval a X.env), (false, eval b X.env)] := by rfl) (hs2 : starEach [b] X.env = [(false, eval b X.env)] := by rfl) :
    WI X tg (.Call (.Name "range" p) [a, b] [] pos) z R := fun c w σ k bb hk =>
  tI_of (pi_range2 hg hm (pa_cons peB (pa_cons peB pa_nil hs2) (by rw [hs, hs2])) hs hs2) (h c w σ _ bb fun v x w1 z1 b1 l1 r1 h1 => h1 c w1 σ _ b1 fun u y w2 z2 b2 l2 r2 ⟨i, j, e1, e2, hb, hR⟩ => by
    subst e1 e2
    cases Dp_int r1
    cases Dp_int r2
    exact ⟨i, j, rfl, hb, hk _ _ _ w2 z2 b2 (l1.trans l2) dw_rng hR⟩)
end

/-! ### for -/
section
variable {X : Cx} {tg iter e : Expr} {z : Z} {pos : Pos} {Q : Out → Prop} {body : List Stmt}
theorem w1_for {g : TG} {vs : List Nat} (hg : PG X tg g) (h : WI X tg iter z fun ys G z1 => ∃ I : Nat → Z → Prop, I 0 z1 ∧ (∀ i z2, i ≤ ys.length → I i z2 → G z2) ∧
      (∀ i y z2, ys[i]? = some y → I i z2 → GD X.K vs g y z2 fun z3 => WS X body z3 (LoopQ (I (i + 1)) Q)) ∧ ∀ z2, I ys.length z2 → Q (.nx z2))
    (hc : X.calm = true := by rfl) (hp : PassesOwn (model X.prog X.w) X.A X.env X.xe := by exact PassesOwn.never) (hs : ∀ x, foldedSetIterable iter X.env x = pure x := by intro _; rfl) : W1 X (.For tg iter body [] pos) z Q := fun c w σ D bb hk =>
  tS_of (ps_for hp hc piB hg pssB hs) (h c w σ _ bb fun J ys G w1 z1 b1 l1 dw ⟨I, h0, hG, hs, hd⟩ => by
    refine ⟨fun i m σ' H' => m = ys.length - i ∧ i ≤ ys.length ∧ ∃ w' z', B X.K c w' σ' z' ∧ w1.Le w' ∧ w'.H = H' ∧ I i z', ⟨ys.length, by simp, Nat.zero_le _, w1, z1, b1, .refl w1, rfl, h0⟩, ?_⟩
    rintro i m σ2 H2 ⟨rfl, hi, w2, z2, b2, l2, rfl, hI⟩
    by_cases hlt : i < ys.length
    · refine .inr ⟨dw.goes i c w2 σ2 z2 hlt b2 l2 (hG i z2 hi hI), fun σ' H' => ∃ w' z', B X.K c w' σ' z' ∧ w1.Le w' ∧ w'.H = H' ∧ I (i + 1) z', fun σ' H' q => ⟨ys.length - (i + 1), by omega, rfl, hlt, q⟩, fun x H' y => ?_⟩
      have hy : ys[i]? = some ys[i] := List.getElem?_eq_getElem hlt
      obtain ⟨w3, rfl, b3, l3, r3⟩ := dw.yields i c w2 σ2 z2 x H' ys[i] hy b2 l2 (hG i z2 hi hI) y
      refine hs i ys[i] z2 hy hI c w3 σ2 x _ b3 r3 fun w4 σ4 z4 b4 l4 _ hw => ?_
      have l5 : w1.Le w4 := (l2.trans l3).trans l4
      exact hw c w4 σ4 _ b4 ⟨fun w' σ' z' b' l q => ⟨w', z', b', l5.trans l, rfl, q⟩, fun v x w' σ' z' b' l r q => hk.rt v x w' σ' z' b' ((l1.trans l5).trans l) r q,
        fun w' σ' z' b' l q => hk.nx w' σ' z' b' ((l1.trans l5).trans l) q, fun w' σ' z' b' l q => ⟨w', z', b', l5.trans l, rfl, q⟩⟩
    · have e : i = ys.length := by omega
      subst e
      exact .inl ⟨dw.stops c w2 σ2 z2 b2 l2 (hG _ z2 hi hI), hk.nx w2 σ2 z2 b2 (l1.trans l2) (hd z2 hI)⟩)
end
end Dl

namespace Dl
open PySem PySem.Spec L2
open PyProof.Rows hiding St

/-! ### defs -/
abbrev Rl := List Sl → List OO → (Sl → List OO → Prop) → Prop
def spD (K : PySem.W.Frag) (n : Nat) (R : Rl) : Sp := fun vs H Q _ => vs.length = n ∧ ∃ (w : Wd) (xs : List Sl) (om : List OO) (Qd : Sl → List OO → Prop), w.H = H ∧ B K w.ct w [] ⟨[], om⟩ ∧ Paired (Vl K w) vs xs ∧ R xs om Qd ∧
  ∀ x om' v w', Qd x om' → B K w.ct w' [] ⟨[], om'⟩ → Vl K w' v x → Q v w'.H
def rlS (n : Nat) : Sl → Bool
  | .ob j => decide (j < n)
  | _ => true
def rlO (n : Nat) : OO → Bool
  | .gone => true
  | .lst xs => xs.all (rlS n)
inductive Ext (n : Nat) : Sl → List OO → Sl → List OO → Prop
  | sh (d : PyData) (ob : List OO) : (ob.take n).all (rlO n) = true → Ext n (.sh d) ob (.sh d) (ob.take n)
  | old (j : Nat) (ob : List OO) : j < n → (ob.take n).all (rlO n) = true → Ext n (.ob j) ob (.ob j) (ob.take n)
  | new (k : Nat) (xs : List Sl) (ob : List OO) : n ≤ k → ob[k]? = some (.lst xs) → (ob.take n).all (rlO n) = true → xs.all (rlS n) = true → Ext n (.ob k) ob (.ob n) (ob.take n ++ [.lst xs])
  | frz (k : Nat) (xs : List Sl) (ds : List PyData) (ob : List OO) : n ≤ k → ob[k]? = some (.lst xs) → (ob.take n).all (rlO n) = true → allSh xs = some ds → Ext n (.ob k) ob (.sh (.list ds)) (ob.take n)
def Fin (n : Nat) (Qd : Sl → List OO → Prop) : Out → Prop
  | .nx z => ∃ x' om', Ext n (.sh .none) z.ob x' om' ∧ Qd x' om'
  | .rt x z => ∃ x' om', Ext n x z.ob x' om' ∧ Qd x' om'
  | _ => False
section
variable {K : PySem.W.Frag} {c : Ct} {w : Wd} {σ : St} {z : Z}
theorem Vl.cut {n : Nat} {S H : Hp} {v : V} : ∀ {x : Sl}, rlS n x = true → Vl K w v x → S = w.S → Vl K ⟨w.rho.take n, S, H⟩ v x
  | .no, _, h, _ => h
  | .sh _, _, h, e => by
    subst e
    exact h
  | .ob j, r, ⟨p, h, e⟩, _ => ⟨p, by
    show (w.rho.take n)[j]? = some p
    rw [List.getElem?_take_of_lt (of_decide_eq_true r)]
    exact h, e⟩
theorem Vls.cut {n : Nat} {S H : Hp} : ∀ {vs : List V} {xs : List Sl}, xs.all (rlS n) = true → Paired (Vl K w) vs xs → S = w.S → Paired (Vl K ⟨w.rho.take n, S, H⟩) vs xs
  | _, _, _, .nil, _ => .nil
  | _, _, h, .cons q t, e => by
    rw [List.all_cons, Bool.and_eq_true] at h
    exact .cons (Vl.cut h.1 q e) (Vls.cut h.2 t e)
theorem B.cut (b : B K c w σ z) {n : Nat} (hn : c.rho.length = n) (hr : (z.ob.take n).all (rlO n) = true) : B K c ⟨w.rho.take n, w.S, w.H⟩ [] ⟨[], z.ob.take n⟩ := by
  refine ⟨b.same, ?_, b.nd.sublist (List.take_sublist _ _), fun p hp => b.tr p (List.mem_of_mem_take hp), .nil, fun i o p h1 h2 => ?_, fun i p h => ?_, b.fr, b.nw, b.st, fun i p hi h => ?_⟩
  · show (w.rho.take n).length = (z.ob.take n).length
    rw [List.length_take, List.length_take, b.len]
  · have h1 : (z.ob.take n)[i]? = some o := h1
    have h2 : (w.rho.take n)[i]? = some p := h2
    have ho : rlO n o = true := List.all_eq_true.mp hr o (List.mem_of_getElem? h1)
    have hi : i < n := by
      have := (List.getElem?_eq_some_iff.mp h1).1
      rw [List.length_take] at this
      omega
    rw [List.getElem?_take_of_lt hi] at h1 h2
    have q := b.ob i o p h1 h2
    cases o with
    | gone => trivial
    | lst xs =>
      obtain ⟨hS, vs, hH, hv⟩ := q
      exact ⟨hS, vs, hH, Vls.cut ho hv rfl⟩
  · show (w.rho.take n)[i]? = some p
    have : i < c.rho.length := (List.getElem?_eq_some_iff.mp h).1
    rw [List.getElem?_take_of_lt (by omega)]
    exact b.pre i p h
  · have h : (w.rho.take n)[i]? = some p := h
    have := (List.getElem?_eq_some_iff.mp h).1
    rw [List.length_take] at this
    omega
theorem fin_ok {n : Nat} (hn : c.rho.length = n) {x x' : Sl} {om' : List OO} (h : Ext n x z.ob x' om') (b : B K c w σ z) {v : V} (r : Vl K w v x) {k : VK} (hk : ∀ w', B K c w' [] ⟨[], om'⟩ → Vl K w' v x' → k v w'.H) : k v w.H := by
  obtain ⟨sl, ob⟩ := z
  have h : Ext n x ob x' om' := h
  cases h with
  | sh d _ hr => exact hk ⟨w.rho.take n, w.S, w.H⟩ (b.cut hn hr) r
  | old j _ hj hr => exact hk ⟨w.rho.take n, w.S, w.H⟩ (b.cut hn hr) (Vl.cut (x := .ob j) (decide_eq_true hj) r rfl)
  | new j xs _ hj ho hr hx =>
    obtain ⟨p, hp, rfl⟩ := r
    obtain ⟨hS, vs, hH, hv⟩ := b.ob j _ p ho hp
    have as : Aside c ⟨w.rho.take n, w.S, w.H⟩ p := ⟨fun hq => by
      obtain ⟨i, hi⟩ := List.getElem?_of_mem hq
      have hi : (w.rho.take n)[i]? = some p := hi
      have hlt : i < n := by
        have := (List.getElem?_eq_some_iff.mp hi).1
        rw [List.length_take] at this
        omega
      rw [List.getElem?_take_of_lt hlt] at hi
      have := nodup_ixA b.nd hi hp
      omega, hS, b.nr j p (by omega) hp⟩
    refine hk ⟨w.rho.take n ++ [p], w.S, w.H⟩ ((b.cut hn hr).push as hH (Vls.cut hx hv rfl)) ⟨p, ?_, rfl⟩
    have hl : (w.rho.take n).length = n := by
      have h1 := b.len
      have h2 := (List.getElem?_eq_some_iff.mp hp).1
      rw [List.length_take]
      omega
    show (w.rho.take n ++ [p])[n]? = some p
    rw [List.getElem?_append_right (by omega), hl, Nat.sub_self]
    rfl
  | frz j xs ds _ hj ho hr hx =>
    obtain ⟨p, hp, rfl⟩ := r
    obtain ⟨hS, vs, hH, hv⟩ := b.ob j _ p ho hp
    have as : Aside c ⟨w.rho.take n, w.S, w.H⟩ p := ⟨fun hq => by
      obtain ⟨i, hi⟩ := List.getElem?_of_mem hq
      have hi : (w.rho.take n)[i]? = some p := hi
      have hlt : i < n := by
        have := (List.getElem?_eq_some_iff.mp hi).1
        rw [List.length_take] at this
        omega
      rw [List.getElem?_take_of_lt hlt] at hi
      have := nodup_ixA b.nd hi hp
      omega, hS, b.nr j p (by omega) hp⟩
    refine hk ⟨w.rho.take n, upd w.S p (.lst vs), w.H⟩ ((b.cut hn hr).stay as hH) ?_
    exact Dq.lst (.inl upd_same) (DpAll_mono (le_stay (w := w) hS).st (allSh_dp hx hv))
end
theorem paired_start {K : PySem.W.Frag} {w : Wd} {N : List Str} : ∀ {vs : List V} {xs : List Sl} (n : Nat), Paired (Vl K w) vs xs → Paired (Sv K w) (vs.map some ++ List.replicate n none) (xs ++ List.replicate n .no)
  | _, _, 0, .nil => .nil
  | _, _, n + 1, .nil => .cons (.inl rfl) (paired_start (N := N) n .nil)
  | _, _, n, .cons q t => .cons (.inr ⟨_, rfl, q⟩) (paired_start (N := N) n t)
section
variable {P : Program} {w : World} {K : PySem.W.Frag} {mg : Str → Option Value} {base : Heap}
theorem fn_ok {x qual : Str} {st : Stmt} {f : Addr} {fd : FuncData} {N ps : List Str} {k : Nat} {R : Rl} (F : Fun K x qual st f fd) (S : FnScope N ps (defScope st))
    (h : ∀ (cdv : Value) (A : Around) (outer : List Env) (s : Shared) (H : Hp) (E : XK), Room k (A.deeper (envOfC qual (defScope st) s.heap.objs.size f cdv)) → ∀ xs om Qd, xs.length = ps.length → R xs om Qd →
      WS (cxOf CX0 P w K mg base N qual (defScope st) f cdv A outer s H E).nox (defBody st) ⟨xs ++ List.replicate (N.length - xs.length) .no, om⟩ (Fin om.length Qd)) : FnOk P w K mg base CX0 (k + 1) f fd ps (spD K ps.length R) := by
  refine F.ok S (fun vs H Q E h => h.1) (fun cdv A outer s H vs Q E hr hsp => ?_)
  obtain ⟨hl, w0, xs, om, Qd, rfl, b0, hv, hR, hq⟩ := hsp
  have hxl : xs.length = ps.length := by rw [← hv.length]; exact hl
  refine ⟨_, pssB, h cdv A outer s w0.H E hr xs om Qd hxl hR w0.ct w0 _ _ ?_ ⟨?_, ?_, ?_, ?_⟩⟩
  · have hp : Paired (Sv K w0) (L2.start N vs) (xs ++ List.replicate (N.length - xs.length) .no) := by
      unfold L2.start
      rw [← hv.length]
      exact paired_start (N := N) _ hv
    exact ⟨b0.same, b0.len, b0.nd, b0.tr, hp, b0.ob, b0.pre, b0.fr, b0.nw, b0.st, b0.nr⟩
  · rintro w' σ' z' b' _ ⟨x', om', he, hQ⟩
    exact fin_ok (k := Q) b0.len he b' (v := .non) vN fun w2 b2 r2 => hq x' om' .non w2 hQ b2 r2
  · rintro v x w' σ' z' b' _ r ⟨x', om', he, hQ⟩
    exact fin_ok (k := Q) b0.len he b' r fun w2 b2 r2 => hq x' om' v w2 hQ b2 r2
  · intro w' σ' z' b' l q
    exact q.elim
  · intro w' σ' z' b' l q
    exact q.elim
end

/-! ### calls -/
def mpS (n : Nat) : Sl → Sl
  | .ob j => .ob (n + j)
  | x => x
def mpO (n : Nat) : OO → OO
  | .gone => .gone
  | .lst xs => .lst (xs.map (mpS n))
section
variable {K : PySem.W.Frag} {c : Ct} {w w' : Wd} {σ : St} {z : Z} {om' : List OO}
theorem Vl.mp {S H : Hp} {v : V} (hl : w.rho.length = z.ob.length) : ∀ {x : Sl}, Vl K w' v x → S = w'.S → Vl K ⟨w.rho ++ w'.rho, S, H⟩ v (mpS z.ob.length x)
  | .no, h, _ => h
  | .sh _, h, e => by
    subst e
    exact h
  | .ob j, ⟨p, h, e⟩, _ => ⟨p, by
    show (w.rho ++ w'.rho)[z.ob.length + j]? = some p
    rw [List.getElem?_append_right (by omega), hl, Nat.add_sub_cancel_left]
    exact h, e⟩
theorem Vls.mp {S H : Hp} (hl : w.rho.length = z.ob.length) : ∀ {vs : List V} {xs : List Sl}, Paired (Vl K w') vs xs → S = w'.S → Paired (Vl K ⟨w.rho ++ w'.rho, S, H⟩) vs (xs.map (mpS z.ob.length))
  | _, _, .nil, _ => .nil
  | _, _, .cons q t, e => .cons (Vl.mp hl q e) (Vls.mp hl t e)
theorem B.back0 (b : B K c w σ z) (b' : B K ⟨w.S, w.H, []⟩ w' [] ⟨[], om'⟩) : B K c ⟨w.rho ++ w'.rho, w'.S, w'.H⟩ σ ⟨z.sl, z.ob ++ om'.map (mpO z.ob.length)⟩ ∧ w.Le ⟨w.rho ++ w'.rho, w'.S, w'.H⟩ := by
  have l : w.Le ⟨w.rho ++ w'.rho, w'.S, w'.H⟩ := ⟨b'.st, fun i q e => by
    show (w.rho ++ w'.rho)[i]? = some q
    rw [List.getElem?_append_left (List.getElem?_eq_some_iff.mp e).1]
    exact e⟩
  have hnew : ∀ p ∈ w'.rho, w.H p = none := fun p hp => by
    obtain ⟨i, hi⟩ := List.getElem?_of_mem hp
    exact b'.nr i p (Nat.zero_le _) hi
  have hfr : ∀ a o, w.H a = some o → w'.H a = some o := fun a o h => b'.fr a o h (by simp)
  have hkeep : ∀ p ∈ w.rho, w'.H p = w.H p := fun p hp => by
    cases e : w.H p with
    | none => exact absurd e (b.tr p hp)
    | some o => exact hfr p o e
  refine ⟨⟨b'.same, ?_, ?_, fun p hp => ?_, b.sl.mono fun _ _ q => q.mono l, fun i o p h1 h2 => ?_, fun i p h => l.rho i p (b.pre i p h), fun a o h hn => hfr a o (b.fr a o h hn), fun a o h => ?_, b.st.trans b'.st, fun i p hi h => ?_⟩, l⟩
  · show (w.rho ++ w'.rho).length = (z.ob ++ om'.map (mpO z.ob.length)).length
    have := b'.len
    rw [List.length_append, List.length_append, List.length_map, b.len, this]
  · refine List.nodup_append.mpr ⟨b.nd, b'.nd, fun a ha q hq e => ?_⟩
    subst e
    exact b.tr a ha (hnew a hq)
  · show w'.H p ≠ none
    rcases List.mem_append.mp hp with hp | hp
    · rw [hkeep p hp]
      exact b.tr p hp
    · exact b'.tr p hp
  · have h1 : (z.ob ++ om'.map (mpO z.ob.length))[i]? = some o := h1
    have h2 : (w.rho ++ w'.rho)[i]? = some p := h2
    by_cases hi : i < w.rho.length
    · rw [List.getElem?_append_left hi] at h2
      rw [List.getElem?_append_left (b.len ▸ hi)] at h1
      have hp := List.mem_of_getElem? h2
      refine (b.ob i o p h1 h2).mono l (fun e => ?_) (hkeep p hp)
      show w'.S p = none
      cases e2 : w'.S p with
      | none => rfl
      | some u =>
        rcases b'.nw p u e2 with q | q
        · exact absurd e q
        · exact absurd q (b.tr p hp)
    · rw [List.getElem?_append_right (by omega)] at h2
      rw [b.len] at hi h2
      rw [List.getElem?_append_right (by omega), List.getElem?_map] at h1
      obtain ⟨o', e1, e2⟩ := Option.map_eq_some_iff.mp h1
      subst e2
      have q := b'.ob _ o' p e1 h2
      cases o' with
      | gone => trivial
      | lst xs =>
        obtain ⟨hS, vs, hH, hv⟩ := q
        exact ⟨hS, vs, hH, Vls.mp b.len hv rfl⟩
  · have h : w'.S a = some o := h
    rcases b'.nw a o h with q | q
    · have q : w.S a ≠ none := q
      cases e : w.S a with
      | none => exact absurd e q
      | some u => exact b.nw a u e
    · exact .inr (b.fresh q)
  · have h : (w.rho ++ w'.rho)[i]? = some p := h
    by_cases hi2 : i < w.rho.length
    · rw [List.getElem?_append_left hi2] at h
      exact b.nr i p hi h
    · rw [List.getElem?_append_right (by omega)] at h
      exact b.fresh (hnew p (List.mem_of_getElem? h))
theorem B.ent0 (b : B K c w σ z) : B K ⟨w.S, w.H, []⟩ ⟨[], w.S, w.H⟩ [] ⟨[], []⟩ := ⟨b.same, rfl, by simp, by simp, .nil, fun i o p h => by simp at h, fun i p h => by simp at h, fun _ _ h _ => h, fun a o h => .inl (by
  show w.S a ≠ none
  have h : w.S a = some o := h
  rw [h]
  simp), Same.refl _, fun i p _ h => by simp at h⟩
/-- with one object of the store -/
def mp1 (i n : Nat) : Sl → Sl
  | .ob 0 => .ob i
  | .ob (j + 1) => .ob (n + j)
  | x => x
def mpO1 (i n : Nat) : OO → OO
  | .gone => .gone
  | .lst xs => .lst (xs.map (mp1 i n))
theorem B.ent1 (b : B K c w σ z) {i : Nat} {p : Addr} {xs : List Sl} {ds : List PyData} (hp : w.rho[i]? = some p) (ho : z.ob[i]? = some (.lst xs)) (hx : allSh xs = some ds) : B K ⟨w.S, w.H, [p]⟩ ⟨[p], w.S, w.H⟩ [] ⟨[], [.lst (ds.map .sh)]⟩ := by
  refine ⟨b.same, rfl, by simp, fun q hq => ?_, .nil, fun j o q h1 h2 => ?_, fun j q h => h, fun _ _ h _ => h, fun a o h => .inl (by
  show w.S a ≠ none
  have h : w.S a = some o := h
  rw [h]
  simp), Same.refl _, fun j q hj h => ?_⟩
  · rw [List.mem_singleton] at hq
    rw [hq]
    exact b.tr p (List.mem_of_getElem? hp)
  · have h2 : ([p] : List Addr)[j]? = some q := h2
    have h1 : ([OO.lst (ds.map Sl.sh)] : List OO)[j]? = some o := h1
    cases j with
    | zero =>
      cases h1
      cases h2
      obtain ⟨hS, vs, hH, hv⟩ := b.ob i _ p ho hp
      exact ⟨hS, vs, hH, dp_allSh (w := ⟨[p], w.S, w.H⟩) (allSh_dp (w := w) hx hv)⟩
    | succ j => simp at h1
  · have h : ([p] : List Addr)[j]? = some q := h
    have hj : 1 ≤ j := hj
    rw [List.getElem?_eq_none (by simpa using hj)] at h
    cases h
theorem Vl.mp1 {S H : Hp} {v : V} {i : Nat} {p : Addr} (hl : w.rho.length = z.ob.length) (hp : w.rho[i]? = some p) (h0 : w'.rho[0]? = some p) : ∀ {x : Sl}, Vl K w' v x → S = w'.S → Vl K ⟨w.rho ++ w'.rho.drop 1, S, H⟩ v (mp1 i z.ob.length x)
  | .no, h, _ => h
  | .sh _, h, e => by
    subst e
    exact h
  | .ob 0, ⟨q, h, e⟩, _ => ⟨q, by
    show (w.rho ++ w'.rho.drop 1)[i]? = some q
    rw [List.getElem?_append_left (List.getElem?_eq_some_iff.mp hp).1, ← h, h0]
    exact hp, e⟩
  | .ob (j + 1), ⟨q, h, e⟩, _ => ⟨q, by
    show (w.rho ++ w'.rho.drop 1)[z.ob.length + j]? = some q
    rw [List.getElem?_append_right (by omega), hl, Nat.add_sub_cancel_left, List.getElem?_drop, Nat.add_comm 1 j]
    exact h, e⟩
theorem Vls.mp1 {S H : Hp} {i : Nat} {p : Addr} (hl : w.rho.length = z.ob.length) (hp : w.rho[i]? = some p) (h0 : w'.rho[0]? = some p) : ∀ {vs : List V} {xs : List Sl}, Paired (Vl K w') vs xs → S = w'.S → Paired (Vl K ⟨w.rho ++ w'.rho.drop 1, S, H⟩) vs (xs.map (mp1 i z.ob.length))
  | _, _, .nil, _ => .nil
  | _, _, .cons q t, e => .cons (Vl.mp1 hl hp h0 q e) (Vls.mp1 hl hp h0 t e)
theorem B.back1 (b : B K c w σ z) {i : Nat} {p : Addr} {o1 : OO} {more : List OO} (hp : w.rho[i]? = some p) (b' : B K ⟨w.S, w.H, [p]⟩ w' [] ⟨[], o1 :: more⟩) :
    B K c ⟨w.rho ++ w'.rho.drop 1, w'.S, w'.H⟩ σ ⟨z.sl, z.ob.set i (mpO1 i z.ob.length o1) ++ more.map (mpO1 i z.ob.length)⟩ ∧ w.Le ⟨w.rho ++ w'.rho.drop 1, w'.S, w'.H⟩ := by
  have l : w.Le ⟨w.rho ++ w'.rho.drop 1, w'.S, w'.H⟩ := ⟨b'.st, fun i q e => by
    show (w.rho ++ w'.rho.drop 1)[i]? = some q
    rw [List.getElem?_append_left (List.getElem?_eq_some_iff.mp e).1]
    exact e⟩
  have h0 : w'.rho[0]? = some p := b'.pre 0 p rfl
  have hnew : ∀ q ∈ w'.rho.drop 1, w.H q = none := fun q hq => by
    obtain ⟨j, hj⟩ := List.getElem?_of_mem hq
    rw [List.getElem?_drop] at hj
    exact b'.nr (1 + j) q (by show 1 ≤ 1 + j; omega) hj
  have hfr : ∀ a o, w.H a = some o → a ≠ p → w'.H a = some o := fun a o h hn => b'.fr a o h (by simpa using hn)
  have hkeep : ∀ q ∈ w.rho, q ≠ p → w'.H q = w.H q := fun q hq hn => by
    cases e : w.H q with
    | none => exact absurd e (b.tr q hq)
    | some o => exact hfr q o e hn
  have hlen : w'.rho.length = more.length + 1 := b'.len
  refine ⟨⟨b'.same, ?_, ?_, fun q hq => ?_, b.sl.mono fun _ _ q => q.mono l, fun j o q h1 h2 => ?_, fun j q h => l.rho j q (b.pre j q h), fun a o h hn => ?_, fun a o h => ?_, b.st.trans b'.st, fun j q hj h => ?_⟩, l⟩
  · show (w.rho ++ w'.rho.drop 1).length = (z.ob.set i (mpO1 i z.ob.length o1) ++ more.map (mpO1 i z.ob.length)).length
    rw [List.length_append, List.length_append, List.length_map, List.length_set, List.length_drop, b.len, hlen]
    omega
  · refine List.nodup_append.mpr ⟨b.nd, b'.nd.sublist (List.drop_sublist _ _), fun a ha q hq e => ?_⟩
    subst e
    exact b.tr a ha (hnew a hq)
  · show w'.H q ≠ none
    rcases List.mem_append.mp hq with hq | hq
    · by_cases hqp : q = p
      · subst hqp
        exact b'.tr q (List.mem_of_getElem? h0)
      · rw [hkeep q hq hqp]
        exact b.tr q hq
    · exact b'.tr q (List.mem_of_mem_drop hq)
  · have h1 : (z.ob.set i (mpO1 i z.ob.length o1) ++ more.map (mpO1 i z.ob.length))[j]? = some o := h1
    have h2 : (w.rho ++ w'.rho.drop 1)[j]? = some q := h2
    have fin : ∀ {o' : OO} {a : Addr}, Ob K w' a o' → Ob K ⟨w.rho ++ w'.rho.drop 1, w'.S, w'.H⟩ a (mpO1 i z.ob.length o') := fun {o' a} hq => by
      cases o' with
      | gone => trivial
      | lst xs =>
        obtain ⟨hS, vs, hH, hv⟩ := hq
        exact ⟨hS, vs, hH, Vls.mp1 b.len hp h0 hv rfl⟩
    by_cases hj : j < w.rho.length
    · rw [List.getElem?_append_left hj] at h2
      have hjz : j < z.ob.length := b.len ▸ hj
      rw [List.getElem?_append_left (by rw [List.length_set]; exact hjz)] at h1
      by_cases hij : i = j
      · subst hij
        rw [List.getElem?_set_self hjz] at h1
        cases h1
        rw [hp] at h2
        cases h2
        exact fin (b'.ob 0 o1 p rfl h0)
      · rw [List.getElem?_set_ne hij] at h1
        have hq := List.mem_of_getElem? h2
        have hqp : q ≠ p := fun e => hij (nodup_ixA b.nd hp (e ▸ h2))
        refine (b.ob j o q h1 h2).mono l (fun e => ?_) (hkeep q hq hqp)
        show w'.S q = none
        cases e2 : w'.S q with
        | none => rfl
        | some u =>
          rcases b'.nw q u e2 with r | r
          · exact absurd e r
          · exact absurd r (b.tr q hq)
    · rw [List.getElem?_append_right (by omega), List.getElem?_drop] at h2
      rw [b.len] at hj h2
      rw [List.getElem?_append_right (by rw [List.length_set]; omega), List.length_set, List.getElem?_map] at h1
      obtain ⟨o', e1, e2⟩ := Option.map_eq_some_iff.mp h1
      subst e2
      refine fin (b'.ob (1 + (j - z.ob.length)) o' q ?_ h2)
      show (o1 :: more)[1 + (j - z.ob.length)]? = some o'
      rw [Nat.add_comm]
      exact e1
  · show w'.H a = some o
    have e := b.fr a o h hn
    refine hfr a o e fun hap => ?_
    subst hap
    by_cases hc : i < c.rho.length
    · have e5 : c.rho[i]? = some c.rho[i] := List.getElem?_eq_getElem hc
      have e6 := b.pre i _ e5
      rw [hp] at e6
      exact absurd (Option.some.inj e6 ▸ List.getElem_mem hc) hn
    · have e6 := b.nr i a (by omega) hp
      rw [h] at e6
      cases e6
  · have h : w'.S a = some o := h
    rcases b'.nw a o h with q | q
    · have q : w.S a ≠ none := q
      cases e : w.S a with
      | none => exact absurd e q
      | some u => exact b.nw a u e
    · exact .inr (b.fresh q)
  · have h : (w.rho ++ w'.rho.drop 1)[j]? = some q := h
    by_cases hi2 : j < w.rho.length
    · rw [List.getElem?_append_left hi2] at h
      exact b.nr j q hj h
    · rw [List.getElem?_append_right (by omega)] at h
      exact b.fresh (hnew q (List.mem_of_getElem? h))
end
end Dl

namespace Dl
open PySem PySem.Spec L2
open PyProof.Rows hiding St

/-! ### promises of the usual forms -/
/-- data in, data out -/
def PureR (F : List PyData → PyData → Prop) : Rl := fun xs om Q => ∃ ds d, xs = ds.map .sh ∧ om = [] ∧ F ds d ∧ Q (.sh d) []
/-- data in, a new list out -/
def NewR (F : List PyData → List PyData → Prop) : Rl := fun xs om Q => ∃ ds r, xs = ds.map .sh ∧ om = [] ∧ F ds r ∧ Q (.ob 0) [.lst (r.map .sh)]
/-- a box first, data behind it; data out, the box changed -/
def BoxR (F : List PyData → List PyData → PyData → List PyData → Prop) : Rl := fun xs om Q => ∃ b ds d b', xs = .ob 0 :: ds.map .sh ∧ om = [.lst (b.map .sh)] ∧ F b ds d b' ∧ Q (.sh d) [.lst (b'.map .sh)]
section
variable {X : Cx} {x : Str} {p pos : Pos} {e : Expr} {es : List Expr} {z : Z} {Q : Sl → Z → Prop} {k : Nat} {f : Addr} {fd : FuncData} {ps : List Str}
theorem mp_map (ds : List PyData) (n : Nat) : (ds.map Sl.sh).map (mpS n) = ds.map Sl.sh := by
  rw [List.map_map]
  exact List.map_congr_left fun d _ => rfl
theorem mp1_map (ds : List PyData) (i n : Nat) : (ds.map Sl.sh).map (mp1 i n) = ds.map Sl.sh := by
  rw [List.map_map]
  exact List.map_congr_left fun d _ => rfl
theorem allSh_eq : ∀ {xs : List Sl} {ds : List PyData}, allSh xs = some ds → xs = ds.map .sh
  | [], _, e => by
    cases e
    rfl
  | .sh d :: r, _, e => by
    obtain ⟨ds, e1, rfl⟩ := allSh_inv e
    rw [allSh_eq e1]
    rfl
/-- what a call by values does -/
theorem call_pure {F : List PyData → PyData → Prop} {c : Ct} {w : Wd} {σ : St} {kk : VK} {vs : List V} {xs : List Sl} {ds : List PyData} {d : PyData} {E : XK} (n : Nat) (b : B X.K c w σ z) (hv : Paired (Vl X.K w) vs xs) (hn : xs.length = n) (hx : allSh xs = some ds) (hF : F ds d) (hQ : Q (.sh d) z) (hk : Cont X.K c w σ Q kk) :
    spD X.K n (PureR F) (vs ++ []) w.H kk E := by
  rw [List.append_nil]
  refine ⟨by rw [hv.length]; exact hn, ⟨[], w.S, w.H⟩, xs, [], fun y om => y = .sh d ∧ om = [], rfl, b.ent0, ?_, ⟨ds, d, allSh_eq hx, rfl, hF, rfl, rfl⟩, fun y om' v w' hq b' r => ?_⟩
  · rw [allSh_eq hx]
    exact dp_allSh (w := ⟨[], w.S, w.H⟩) (allSh_dp (w := w) hx hv)
  · obtain ⟨rfl, rfl⟩ := hq
    obtain ⟨b2, l⟩ := b.back0 b'
    refine hk v (.sh d) ⟨w.rho ++ w'.rho, w'.S, w'.H⟩ z ?_ l r hQ
    have : (⟨z.sl, z.ob ++ ([] : List OO).map (mpO z.ob.length)⟩ : Z) = z := by
      cases z
      simp
    rw [this] at b2
    exact b2
theorem call_new {F : List PyData → List PyData → Prop} {c : Ct} {w : Wd} {σ : St} {kk : VK} {vs : List V} {xs : List Sl} {ds r : List PyData} {E : XK} (n : Nat) (b : B X.K c w σ z) (hv : Paired (Vl X.K w) vs xs) (hn : xs.length = n) (hx : allSh xs = some ds) (hF : F ds r)
    (hQ : Q (.ob z.ob.length) ⟨z.sl, z.ob ++ [.lst (r.map .sh)]⟩) (hk : Cont X.K c w σ Q kk) : spD X.K n (NewR F) (vs ++ []) w.H kk E := by
  rw [List.append_nil]
  refine ⟨by rw [hv.length]; exact hn, ⟨[], w.S, w.H⟩, xs, [], fun y om => y = .ob 0 ∧ om = [.lst (r.map .sh)], rfl, b.ent0, ?_, ⟨ds, r, allSh_eq hx, rfl, hF, rfl, rfl⟩, fun y om' v w' hq b' rv => ?_⟩
  · rw [allSh_eq hx]
    exact dp_allSh (w := ⟨[], w.S, w.H⟩) (allSh_dp (w := w) hx hv)
  · obtain ⟨rfl, rfl⟩ := hq
    obtain ⟨b2, l⟩ := b.back0 b'
    refine hk v (.ob z.ob.length) ⟨w.rho ++ w'.rho, w'.S, w'.H⟩ _ ?_ l (Vl.mp (z := z) (x := .ob 0) b.len rv rfl) hQ
    have : ([OO.lst (r.map .sh)] : List OO).map (mpO z.ob.length) = [.lst (r.map .sh)] := by
      show [OO.lst ((r.map Sl.sh).map (mpS z.ob.length))] = _
      rw [mp_map]
    rw [this] at b2
    exact b2
theorem call_box {F : List PyData → List PyData → PyData → List PyData → Prop} {c : Ct} {w : Wd} {σ : St} {kk : VK} {vs : List V} {xs ys : List Sl} {i : Nat} {bx bx' ds : List PyData} {d : PyData} {E : XK} (n : Nat) (b : B X.K c w σ z) (hv : Paired (Vl X.K w) vs (.ob i :: xs)) (hn : xs.length + 1 = n) (hx : allSh xs = some ds)
    (ho : z.ob[i]? = some (.lst ys)) (hy : allSh ys = some bx) (hF : F bx ds d bx') (hQ : Q (.sh d) ⟨z.sl, z.ob.set i (.lst (bx'.map .sh))⟩) (hk : Cont X.K c w σ Q kk) : spD X.K n (BoxR F) (vs ++ []) w.H kk E := by
  rw [List.append_nil]
  cases hv with
  | cons h1 ht =>
    obtain ⟨p, hp, rfl⟩ := h1
    refine ⟨by rw [List.length_cons, ht.length]; exact hn, ⟨[p], w.S, w.H⟩, .ob 0 :: xs, [.lst (bx.map .sh)], fun y om => y = .sh d ∧ om = [.lst (bx'.map .sh)], rfl, b.ent1 hp ho hy, .cons ⟨p, rfl, rfl⟩ ?_, ⟨bx, ds, d, bx', by rw [allSh_eq hx], rfl, hF, rfl, rfl⟩, fun y om' v w' hq b' r => ?_⟩
    · rw [allSh_eq hx]
      exact dp_allSh (w := ⟨[p], w.S, w.H⟩) (allSh_dp (w := w) hx ht)
    · obtain ⟨rfl, rfl⟩ := hq
      obtain ⟨b2, l⟩ := b.back1 hp b'
      refine hk v (.sh d) ⟨w.rho ++ w'.rho.drop 1, w'.S, w'.H⟩ _ ?_ l r hQ
      have : z.ob.set i (mpO1 i z.ob.length (.lst (bx'.map .sh))) ++ ([] : List OO).map (mpO1 i z.ob.length) = z.ob.set i (.lst (bx'.map .sh)) := by
        show z.ob.set i (.lst ((bx'.map Sl.sh).map (mp1 i z.ob.length))) ++ [] = _
        rw [mp1_map, List.append_nil]
      rw [this] at b2
      exact b2
end
/-- a def as callers know it -/
structure Df (P : Program) (w : World) (K : PySem.W.Frag) (mg : Str → Option Value) (base : Heap) (x : Str) (k : Nat) (ps : List Str) (R : Rl) : Prop where
  ex : ∃ (f : Addr) (fd : FuncData), FnOk P w K mg base CX0 k f fd ps (spD K ps.length R) ∧ mg x = some (.ref f) ∧ PySem.W.keepIn K (.ref f) = true ∧ Binds K fd ps []
theorem pass0x {X : Cx} : Passes CX0 X E0 := fun _ _ _ _ _ _ _ h => h.elim
section
variable {X : Cx} {x : Str} {p pos : Pos} {e : Expr} {es : List Expr} {z : Z} {Q : Sl → Z → Prop} {k kk : Nat} {ps : List Str}
theorem we_callP {F : List PyData → PyData → Prop} (G : Df X.prog X.w X.K X.mg X.base x k ps (PureR F)) (hr : Room kk X.A) (hle : k ≤ kk)
    (h : WA X (e :: es) z fun xs z1 => ∃ ds d, allSh xs = some ds ∧ F ds d ∧ xs.length = ps.length ∧ Q (.sh d) z1) (hg : Gl X x := by rfl) (hd : (x == ("__debug__" : Str)) = false := by decide) (he : starEach (e :: es) X.env = (false, eval e X.env) :: starEach es X.env := by rfl)
    (hpl : (backTo pos (starEach es X.env)).any (·.1) = false := by rfl) : WE X (.Call (.Name x p) (e :: es) [] pos) z Q := by
  obtain ⟨f, fd, G, hm, hk, hb⟩ := G.ex
  exact fun c w σ kk bb hkk => tE_of (pe_call G (hr.mono hle) hg hm hk hb .nil pass0x paB hd he hpl) (h c w σ _ bb fun vs xs w1 z1 b1 l1 hv ⟨ds, d, hx, hF, hn, hQ⟩ => call_pure ps.length b1 hv hn hx hF hQ (hkk.le l1))
theorem we_callN {F : List PyData → List PyData → Prop} (G : Df X.prog X.w X.K X.mg X.base x k ps (NewR F)) (hr : Room kk X.A) (hle : k ≤ kk)
    (h : WA X (e :: es) z fun xs z1 => ∃ ds d, allSh xs = some ds ∧ F ds d ∧ xs.length = ps.length ∧ Q (.ob z1.ob.length) ⟨z1.sl, z1.ob ++ [.lst (d.map .sh)]⟩) (hg : Gl X x := by rfl) (hd : (x == ("__debug__" : Str)) = false := by decide) (he : starEach (e :: es) X.env = (false, eval e X.env) :: starEach es X.env := by rfl)
    (hpl : (backTo pos (starEach es X.env)).any (·.1) = false := by rfl) : WE X (.Call (.Name x p) (e :: es) [] pos) z Q := by
  obtain ⟨f, fd, G, hm, hk, hb⟩ := G.ex
  exact fun c w σ kk bb hkk => tE_of (pe_call G (hr.mono hle) hg hm hk hb .nil pass0x paB hd he hpl) (h c w σ _ bb fun vs xs w1 z1 b1 l1 hv ⟨ds, d, hx, hF, hn, hQ⟩ => call_new ps.length b1 hv hn hx hF hQ (hkk.le l1))
theorem we_callX0 {F : List PyData → List PyData → PyData → List PyData → Prop} (G : Df X.prog X.w X.K X.mg X.base x k ps (BoxR F)) (hr : Room kk X.A) (hle : k ≤ kk)
    (h : WA X (e :: es) z fun xs z1 => ∃ i ys zs bx ds d bx', xs = .ob i :: ys ∧ allSh ys = some ds ∧ z1.ob[i]? = some (.lst zs) ∧ allSh zs = some bx ∧ F bx ds d bx' ∧ xs.length = ps.length ∧ Q (.sh d) ⟨z1.sl, z1.ob.set i (.lst (bx'.map .sh))⟩)
    (hg : Gl X x := by rfl) (hd : (x == ("__debug__" : Str)) = false := by decide) (he : starEach (e :: es) X.env = (false, eval e X.env) :: starEach es X.env := by rfl)
    (hpl : (backTo pos (starEach es X.env)).any (·.1) = false := by rfl) : WE X (.Call (.Name x p) (e :: es) [] pos) z Q := by
  obtain ⟨f, fd, G, hm, hk, hb⟩ := G.ex
  exact fun c w σ kk bb hkk => tE_of (pe_call G (hr.mono hle) hg hm hk hb .nil pass0x paB hd he hpl) (h c w σ _ bb fun vs xs w1 z1 b1 l1 hv ⟨i, ys, zs, bx, ds, d, bx', e1, hx, ho, hy, hF, hn, hQ⟩ => by
    subst e1
    exact call_box (ys := zs) ps.length b1 hv hn hx ho hy hF hQ (hkk.le l1))
end
section
variable {P : Program} {w : World} {K : PySem.W.Frag} {mg : Str → Option Value} {base : Heap} {x : Str} {k k' : Nat} {ps : List Str} {R R' : Rl}
theorem Df.mono (D : Df P w K mg base x k ps R) (h : k ≤ k') : Df P w K mg base x k' ps R := by
  obtain ⟨f, fd, G, r⟩ := D.ex
  exact ⟨f, fd, G.mono h, r⟩
theorem Df.imp (D : Df P w K mg base x k ps R) (h : ∀ xs om Q, R' xs om Q → ∃ Q', R xs om Q' ∧ ∀ y om', Q' y om' → Q y om') : Df P w K mg base x k ps R' := by
  obtain ⟨f, fd, G, r⟩ := D.ex
  refine ⟨f, fd, G.imp fun vs H Q E ⟨hl, w0, xs, om, Qd, hH, b, hv, hR, hq⟩ => ?_, r⟩
  obtain ⟨Q', hR', hi⟩ := h xs om Qd hR
  exact ⟨hl, w0, xs, om, Q', hH, b, hv, hR', fun x om' v w' h1 => hq x om' v w' (hi x om' h1)⟩
/-- a new list that stays -/
theorem Df.frz {F : List PyData → List PyData → Prop} (D : Df P w K mg base x k ps (NewR F)) : Df P w K mg base x k ps (PureR fun ds d => ∃ r, F ds r ∧ d = .list r) := by
  obtain ⟨f, fd, G, hm⟩ := D.ex
  refine ⟨f, fd, G.imp fun vs H Q E ⟨hl, w0, xs, om, Qd, hH, b, hv, hR, hq⟩ => ?_, hm⟩
  obtain ⟨ds, d, e1, e2, ⟨r, hF, e3⟩, hQ⟩ := hR
  subst e1 e2 e3
  refine ⟨hl, w0, _, [], fun y om' => y = .ob 0 ∧ om' = [.lst (r.map .sh)], hH, b, hv, ⟨ds, r, rfl, rfl, hF, rfl, rfl⟩, ?_⟩
  rintro y om' v w' ⟨rfl, rfl⟩ b' ⟨p, hp, rfl⟩
  have hlen : w0.rho.length = 0 := b.len
  refine fin_ok (n := 0) (k := Q) hlen (Ext.frz 0 (r.map .sh) r [.lst (r.map .sh)] (Nat.le_refl _) rfl rfl (allSh_map r)) b' (x := .ob 0) ⟨p, hp, rfl⟩ fun w2 b2 r2 => hq _ _ _ w2 hQ b2 r2
theorem df_mk {qual : Str} {st : Stmt} {f : Addr} {fd : FuncData} (G : FnOk P w K mg base CX0 k f fd ps (spD K ps.length R)) (hm : mg x = some (.ref f)) (hk : PySem.W.keepIn K (.ref f) = true) (hb : Binds K fd ps []) : Df P w K mg base x k ps R := ⟨f, fd, G, hm, hk, hb⟩
end

/-! ### list comprehensions -/
def wipeZ (sl : List Sl) : List Nat → List Sl
  | [] => sl
  | v :: vs => (wipeZ sl vs).set v .no
theorem B.wipe {K : PySem.W.Frag} {c : Ct} {w : Wd} {σ : St} {z : Z} (b : B K c w σ z) (vs : List Nat) : B K c w (L2.wipe σ vs) ⟨wipeZ z.sl vs, z.ob⟩ := by
  refine ⟨b.same, b.len, b.nd, b.tr, ?_, b.ob, b.pre, b.fr, b.nw, b.st, b.nr⟩
  show Paired (Sv K w) (L2.wipe σ vs) (wipeZ z.sl vs)
  induction vs with
  | nil => exact b.sl
  | cons v vs ih => exact paired_set (.inl rfl) v ih
/-- the slots as they were, the store as it is -/
theorem B.slots {K : PySem.W.Frag} {c c' : Ct} {w w' : Wd} {σ σ' : St} {z z' : Z} (b : B K c w σ z) (b' : B K c' w' σ' z') (l : w.Le w') : B K c' w' σ ⟨z.sl, z'.ob⟩ :=
  ⟨b'.same, b'.len, b'.nd, b'.tr, b.sl.mono fun _ _ q => q.mono l, b'.ob, b'.pre, b'.fr, b'.nw, b'.st, b'.nr⟩
theorem wipe_wipe (σ : St) : ∀ vs : List Nat, L2.wipe (L2.wipe σ vs) vs = L2.wipe σ vs := fun vs => by
  have e : ∀ (us : List Nat) (τ : St), (∀ u ∈ us, u ∈ vs) → (∀ u ∈ us, τ.set u none = τ) → L2.wipe τ us = τ := fun us => by
    induction us with
    | nil => exact fun τ _ _ => rfl
    | cons u us ih =>
      intro τ h1 h2
      show (L2.wipe τ us).set u none = τ
      rw [ih τ (fun v hv => h1 v (List.mem_cons_of_mem _ hv)) (fun v hv => h2 v (List.mem_cons_of_mem _ hv))]
      exact h2 u List.mem_cons_self
  refine e vs _ (fun u h => h) fun u hu => ?_
  have f : ∀ (us : List Nat) (τ : St), u ∈ us → (L2.wipe τ us).set u none = L2.wipe τ us := fun us => by
    induction us with
    | nil => exact fun τ h => absurd h (by simp)
    | cons v us ih =>
      intro τ h
      show ((L2.wipe τ us).set v none).set u none = (L2.wipe τ us).set v none
      by_cases huv : u = v
      · subst huv
        rw [List.set_set]
      · rcases List.mem_cons.mp h with h | h
        · exact absurd h huv
        · rw [List.set_comm _ _ (Ne.symm huv), ih τ h]
  exact f vs σ hu
def WTs (X : Cx) (ifs : List Expr) (z : Z) (Q : Bool → Z → Prop) : Prop := match ifs with
  | [] => Q true z
  | [c] => WT X c z Q
  | _ => False
def tTs (X : Cx) (ifs : List Expr) : TT := match ifs with
  | [] => tYes
  | [c] => tT X c
  | _ => fun _ _ _ => False
theorem ptsB {X : Cx} : ∀ {ifs : List Expr}, PTs X ifs (tTs X ifs)
  | [] => pts_nil
  | [c] => pts_one ptB
  | _ :: _ :: _ => ⟨fun _ _ _ _ _ _ h => h.elim⟩
theorem wts_ok {X : Cx} {z : Z} {Q : Bool → Z → Prop} : ∀ {ifs : List Expr}, WTs X ifs z Q → ∀ c w σ (k : Bool → Hp → Prop), B X.K c w σ z → (∀ b w' z', B X.K c w' σ z' → w.Le w' → Q b z' → k b w'.H) → tTs X ifs σ w.H k
  | [], h, c, w, σ, k, b, hk => hk true w z b (.refl w) h
  | [_], h, c, w, σ, k, b, hk => h c w σ k b hk
section
variable {X : Cx} {tg iter elt : Expr} {ifs : List Expr} {scope : Scope} {z : Z} {pos : Pos}
/-- a comprehension's inner context -/
abbrev Blk (X : Cx) (scope : Scope) (s : Shared) (H : Hp) (C : Addr) (cl : List (Str × Addr)) (fp : List Addr) : Cx := X.blk s H scope (compEnvC scope cl C X.env) fp
/-- what a comprehension asks: I by the turn, what is made so far, the state -/
def LcD (X : Cx) (tg elt : Expr) (ifs : List Expr) (scope : Scope) (vs : List Nat) (g : TG) (Q : List Sl → Z → Prop) : List Sl → (Z → Prop) → Z → Prop := fun ys G z1 => ys.length ≤ 100000 ∧ ∃ I : Nat → List Sl → List OO → Prop, I 0 [] z1.ob ∧
  (∀ i acc om, I i acc om → G ⟨wipeZ z1.sl vs, om⟩) ∧
  (∀ i y acc om, ys[i]? = some y → I i acc om → acc.length ≤ i → GD X.K vs g y ⟨wipeZ z1.sl vs, om⟩ fun z2 => ∀ s H C cl fp, WTs (Blk X scope s H C cl fp) ifs z2 fun b z3 =>
    (b = true → ∀ s H C cl fp, WE (Blk X scope s H C cl fp) elt z3 fun x z4 => I (i + 1) (acc ++ [x]) z4.ob) ∧ (b = false → I (i + 1) acc z3.ob)) ∧
  ∀ acc om, I ys.length acc om → acc.length ≤ ys.length → Q acc ⟨z1.sl, om⟩
theorem lc_ok {own : List (Str × Nat)} {g : TG} {Q : List Sl → Z → Prop} {c : Ct} {w : Wd} {σ : St} {k : VK} (bb : B X.K c w σ z)
    (h : WI X tg iter z (LcD X tg elt ifs scope (own.map (·.2)) g Q))
    (hk : ∀ D vs acc w1 z1, B X.K c w1 σ z1 → w.Le w1 → Aside c w1 D → w1.H D = some (.lst vs) → Paired (Vl X.K w1) vs acc → Q acc z1 → k (.ref D) w1.H) :
    tLc (tI X tg iter) g (fun σ H Q => ∀ s H0 C cl fp, tTs (Blk X scope s H0 C cl fp) ifs σ H Q) (fun σ H Q => ∀ s H0 C cl fp, tE (Blk X scope s H0 C cl fp) elt σ H Q) (own.map (·.2)) σ w.H k := by
  refine h c w σ _ bb fun J ys G w1 z1 b1 l1 dw ⟨hyl, I, h0, hG, hs, hd⟩ D hD => ?_
  have as1 : Aside c w1 D := b1.asideNew hD
  refine ⟨fun i m H' => m = ys.length - i ∧ i ≤ ys.length ∧ ∃ w' om vs acc, B X.K c w' σ ⟨z1.sl, om⟩ ∧ w1.Le w' ∧ w'.H = H' ∧ Aside c w' D ∧ w'.H D = some (.lst vs) ∧ Paired (Vl X.K w') vs acc ∧ acc.length ≤ i ∧ I i acc om,
    ⟨ys.length, by simp, Nat.zero_le _, ⟨w1.rho, w1.S, upd w1.H D (.lst [])⟩, z1.ob, [], [], b1.aside as1, le_aside, rfl, ⟨as1.nr, as1.nS, as1.nc⟩, upd_same, .nil, Nat.zero_le _, h0⟩, ?_⟩
  rintro i m H2 ⟨rfl, hi, w2, om, vs, acc, b2, l2, rfl, as2, hD2, hp2, ha, hI⟩
  have bw := b2.wipe (own.map (·.2))
  by_cases hlt : i < ys.length
  · refine .inr ⟨dw.goes i c w2 _ _ hlt bw l2 (hG i acc om hI), fun H' => ∃ w' om vs acc, B X.K c w' σ ⟨z1.sl, om⟩ ∧ w1.Le w' ∧ w'.H = H' ∧ Aside c w' D ∧ w'.H D = some (.lst vs) ∧ Paired (Vl X.K w') vs acc ∧ acc.length ≤ i + 1 ∧ I (i + 1) acc om,
      fun H' q => ⟨ys.length - (i + 1), by omega, rfl, hlt, q⟩, fun x H' y => ?_⟩
    have hy : ys[i]? = some ys[i] := List.getElem?_eq_getElem hlt
    have bs := bw.self
    obtain ⟨w3, rfl, b3, l3, r3⟩ := dw.yields i w2.ct w2 _ _ x H' ys[i] hy bs l2 (hG i acc om hI) y
    have b23 : w2.Le w3 := l3
    refine hs i ys[i] acc om hy hI ha w2.ct w3 _ x _ b3 r3 fun w4 σ4 z4 b4 l4 hwp hw => ⟨hwp.trans (wipe_wipe σ _), fun s0 H0 C cl fp => ?_⟩
    refine wts_ok (hw s0 H0 C cl fp) w2.ct w4 σ4 _ b4 fun d w5 z5 b5 l5 hq => ?_
    have l25 : w2.Le w5 := (l3.trans l4).trans l5
    cases d with
    | true =>
      show ∀ s H0 C cl fp, tE (Blk X scope s H0 C cl fp) elt σ4 w5.H _
      intro s1 H1 C1 cl1 fp1
      refine hq.1 rfl s1 H1 C1 cl1 fp1 w2.ct w5 σ4 _ b5 fun v x6 w6 z6 b6 l6 r6 hI6 => ?_
      have l26 := l25.trans l6
      obtain ⟨as6, hD6⟩ := as2.on b2 hD2 b6
      refine ⟨vs, hD6, ?_, ⟨w6.rho, w6.S, upd w6.H D (.lst (vs ++ [v]))⟩, z6.ob, vs ++ [v], acc ++ [x6], ?_, ?_, rfl, ⟨as6.nr, as6.nS, as6.nc⟩, upd_same, ?_, ?_, hI6⟩
      · rw [hp2.length]
        exact Nat.lt_of_le_of_lt (Nat.le_trans ha (Nat.le_trans hi hyl)) (by decide)
      · have b7 : B X.K c w6 σ ⟨z1.sl, z6.ob⟩ := b2.slots (b2.comp b6) l26
        exact b7.aside as6
      · exact (l2.trans l26).trans le_aside
      · exact (hp2.mono fun _ _ q => q.mono (l26.trans le_aside)).snoc (r6.mono le_aside)
      · rw [List.length_append]
        simp
        omega
    | false =>
      show ∃ w' om vs acc, _
      obtain ⟨as5, hD5⟩ := as2.on b2 hD2 b5
      exact ⟨w5, z5.ob, vs, acc, b2.slots (b2.comp b5) l25, l2.trans l25, rfl, as5, hD5, hp2.mono fun _ _ q => q.mono l25, by omega, hq.2 rfl⟩
  · have e : i = ys.length := by omega
    subst e
    exact .inl ⟨dw.stops c w2 _ _ bw l2 (hG _ acc om hI), hk D vs acc w2 _ b2 (l1.trans l2) as2 hD2 hp2 (hd acc om hI ha)⟩
end
end Dl

namespace Dl
open PySem PySem.Spec L2
open PyProof.Rows hiding St

/-! ### comprehensions as expressions and in assignments -/
/-- what is made stays -/
def FrzK (Q : Sl → Z → Prop) : List Sl → Z → Prop := fun acc z1 => ∃ ds, allSh acc = some ds ∧ Q (.sh (.list ds)) z1
section
variable {X : Cx} {tg iter elt : Expr} {ifs : List Expr} {scope : Scope} {z : Z} {pos spos py : Pos} {own : List (Str × Nat)} {g : TG} {Q : Sl → Z → Prop}
theorem we_lcF (hN : X.N.Nodup) (ok : BlkOk X.N X.env.scope scope own) (hg : ∀ s H C cl fp, PG (Blk X scope s H C cl fp) tg g)
    (h : WI X tg iter z (LcD X tg elt ifs scope (own.map (·.2)) g (FrzK Q))) (hc : X.calm = true := by rfl) (hs : ∀ x, foldedSetIterable iter X.env x = pure x := by intro _; rfl) :
    WE X (.ListComp elt [⟨tg, iter, ifs, 0⟩] scope pos) z Q := fun c w σ k bb hk =>
  tE_of (pe_lc hc hN piB ok hg (fun s H C cl fp => ⟨fun pins s1 σ H1 Q I h => ptsB.run pins s1 σ H1 Q I (h s H C cl fp)⟩) (fun s H C cl fp => ⟨fun pins s1 σ H1 Q I h => h s H C cl fp pins s1 I⟩) hs)
    (lc_ok bb h fun D vs acc w1 z1 b1 l1 as hD hp ⟨ds, ha, hq⟩ => hk (.ref D) (.sh (.list ds)) ⟨w1.rho, upd w1.S D (.lst vs), w1.H⟩ z1 (b1.stay as hD) (l1.trans (le_stay as.nS)) (Dq.lst (.inl upd_same) (DpAll_mono (le_stay (w := w1) as.nS).st (allSh_dp ha hp))) hq)
theorem we_lc (hN : X.N.Nodup) (ok : BlkOk X.N X.env.scope scope own) (hg : ∀ s H C cl fp, PG (Blk X scope s H C cl fp) tg g)
    (h : WI X tg iter z (LcD X tg elt ifs scope (own.map (·.2)) g fun acc z1 => Q (.ob z1.ob.length) ⟨z1.sl, z1.ob ++ [.lst acc]⟩)) (hc : X.calm = true := by rfl) (hs : ∀ x, foldedSetIterable iter X.env x = pure x := by intro _; rfl) :
    WE X (.ListComp elt [⟨tg, iter, ifs, 0⟩] scope pos) z Q := fun c w σ k bb hk =>
  tE_of (pe_lc hc hN piB ok hg (fun s H C cl fp => ⟨fun pins s1 σ H1 Q I h => ptsB.run pins s1 σ H1 Q I (h s H C cl fp)⟩) (fun s H C cl fp => ⟨fun pins s1 σ H1 Q I h => h s H C cl fp pins s1 I⟩) hs)
    (lc_ok bb h fun D vs acc w1 z1 b1 l1 as hD hp hq => hk (.ref D) (.ob z1.ob.length) ⟨w1.rho ++ [D], w1.S, w1.H⟩ _ (b1.push as hD hp) (l1.trans le_push) ⟨D, by
      show (w1.rho ++ [D])[z1.ob.length]? = some D
      rw [← b1.len, List.getElem?_append_right (Nat.le_refl _), Nat.sub_self]
      rfl, rfl⟩ hq)
theorem w1_setLcF {P : Out → Prop} {i : Nat} {y : Str} (hN : X.N.Nodup) (hy : X.N[i]? = some y) (ok : BlkOk X.N X.env.scope scope own) (hg : ∀ s H C cl fp, PG (Blk X scope s H C cl fp) tg g)
    (h : WI X tg iter z (LcD X tg elt ifs scope (own.map (·.2)) g (FrzK fun y z1 => P (.nx ⟨z1.sl.set i y, z1.ob⟩))))
    (hsw : swapsWith (.ListComp elt [⟨tg, iter, ifs, 0⟩] scope pos) (some (.Name y py)) spos.line X.env = pure true) (hyl : X.env.scope.names.lookup y = some .local := by rfl) (hc : X.calm = true := by rfl) (hs : ∀ x, foldedSetIterable iter X.env x = pure x := by intro _; rfl) :
    W1 X (.Assign [.Name y py] (.ListComp elt [⟨tg, iter, ifs, 0⟩] scope pos) spos) z P := fun c w σ D bb hk =>
  tS_of (ps_setLc hc hN hy hyl hsw piB ok hg (fun s H C cl fp => ⟨fun pins s1 σ H1 Q I h => ptsB.run pins s1 σ H1 Q I (h s H C cl fp)⟩) (fun s H C cl fp => ⟨fun pins s1 σ H1 Q I h => h s H C cl fp pins s1 I⟩) hs)
    (lc_ok bb h fun A vs acc w1 z1 b1 l1 as hD hp ⟨ds, ha, hq⟩ => by
      have b2 : B X.K c ⟨w1.rho, upd w1.S A (.lst vs), w1.H⟩ σ z1 := b1.stay as hD
      have r2 : Vl X.K ⟨w1.rho, upd w1.S A (.lst vs), w1.H⟩ (.ref A) (.sh (.list ds)) := Dq.lst (.inl upd_same) (DpAll_mono (le_stay (w := w1) as.nS).st (allSh_dp ha hp))
      exact hk.nx ⟨w1.rho, upd w1.S A (.lst vs), w1.H⟩ _ _ (b2.setSl (i := i) r2) (l1.trans (le_stay as.nS)) hq)
end

/-! ### operators over data -/
section
variable {X : Cx} {z : Z} {Q : Sl → Z → Prop} {i j : Int}
theorem rd_addI (h : Q (.sh (.int (i + j))) z) : RD X (binaryOp .Add) (.sh (.int i)) (.sh (.int j)) z Q := fun c w σ v u k b r1 r2 hk => by
  cases Dp_int r1
  cases Dp_int r2
  exact rB_of op_add ⟨i, j, rfl, rfl, hk _ _ w z b (.refl w) (vI _) h⟩
theorem rd_subI (h : Q (.sh (.int (i - j))) z) : RD X (binaryOp .Sub) (.sh (.int i)) (.sh (.int j)) z Q := fun c w σ v u k b r1 r2 hk => by
  cases Dp_int r1
  cases Dp_int r2
  exact rB_of op_sub ⟨i, j, rfl, rfl, hk _ _ w z b (.refl w) (vI _) h⟩
theorem rd_mulI (hc : CMul i j) (h : Q (.sh (.int (i * j))) z) : RD X (binaryOp .Mult) (.sh (.int i)) (.sh (.int j)) z Q := fun c w σ v u k b r1 r2 hk => by
  cases Dp_int r1
  cases Dp_int r2
  exact rB_of op_mul ⟨i, j, rfl, rfl, hc, hk _ _ w z b (.refl w) (vI _) h⟩
theorem rd_modI (hc : 0 < j) (h : Q (.sh (.int (i % j))) z) : RD X (binaryOp .Mod) (.sh (.int i)) (.sh (.int j)) z Q := fun c w σ v u k b r1 r2 hk => by
  cases Dp_int r1
  cases Dp_int r2
  exact rB_of op_mod ⟨i, j, rfl, rfl, hc, hk _ _ w z b (.refl w) (vI _) h⟩
theorem rd_fdivI (hc : 0 < j ∧ j < 1073741824) (h : Q (.sh (.int (i / j))) z) : RD X (binaryOp .FloorDiv) (.sh (.int i)) (.sh (.int j)) z Q := fun c w σ v u k b r1 r2 hk => by
  cases Dp_int r1
  cases Dp_int r2
  exact rB_of op_fdiv ⟨i, j, rfl, rfl, hc, hk _ _ w z b (.refl w) (vI _) h⟩
theorem rd_powI (hc : CPow i j) (h : Q (.sh (.int (i ^ j.toNat))) z) : RD X (binaryOp .Pow) (.sh (.int i)) (.sh (.int j)) z Q := fun c w σ v u k b r1 r2 hk => by
  cases Dp_int r1
  cases Dp_int r2
  exact rB_of op_pow ⟨i, j, rfl, rfl, hc, hk _ _ w z b (.refl w) (vI _) h⟩
theorem rd_addS {x y : Str} (hc : x.length + y.length ≤ sizeLine) (h : Q (.sh (.str (x ++ y))) z) : RD X (binaryOp .Add) (.sh (.str x)) (.sh (.str y)) z Q := fun c w σ v u k b r1 r2 hk => by
  cases Dp_str r1
  cases Dp_str r2
  exact rB_of op_add_str ⟨x, y, rfl, rfl, hc, hk _ _ w z b (.refl w) (vS _) h⟩
theorem rd_ltI (h : Q (.sh (.bool (decide (i < j)))) z) : RD X (compareOp .Lt) (.sh (.int i)) (.sh (.int j)) z Q := fun c w σ v u k b r1 r2 hk => by
  cases Dp_int r1
  cases Dp_int r2
  exact rB_of op_lt ⟨i, j, rfl, rfl, hk _ _ w z b (.refl w) (vB _) h⟩
theorem rd_leI (h : Q (.sh (.bool (decide (i ≤ j)))) z) : RD X (compareOp .LtE) (.sh (.int i)) (.sh (.int j)) z Q := fun c w σ v u k b r1 r2 hk => by
  cases Dp_int r1
  cases Dp_int r2
  exact rB_of op_le ⟨i, j, rfl, rfl, hk _ _ w z b (.refl w) (vB _) h⟩
theorem rd_gtI (h : Q (.sh (.bool (decide (j < i)))) z) : RD X (compareOp .Gt) (.sh (.int i)) (.sh (.int j)) z Q := fun c w σ v u k b r1 r2 hk => by
  cases Dp_int r1
  cases Dp_int r2
  exact rB_of op_gt ⟨i, j, rfl, rfl, hk _ _ w z b (.refl w) (vB _) h⟩
theorem rd_geI (h : Q (.sh (.bool (decide (j ≤ i)))) z) : RD X (compareOp .GtE) (.sh (.int i)) (.sh (.int j)) z Q := fun c w σ v u k b r1 r2 hk => by
  cases Dp_int r1
  cases Dp_int r2
  exact rB_of op_ge ⟨i, j, rfl, rfl, hk _ _ w z b (.refl w) (vB _) h⟩
theorem dint_eq : decide ((V.int i) = .int j) = decide (i = j) := by simp
theorem rd_eqI (h : Q (.sh (.bool (decide (i = j)))) z) : RD X (compareOp .Eq) (.sh (.int i)) (.sh (.int j)) z Q := fun c w σ v u k b r1 r2 hk => by
  cases Dp_int r1
  cases Dp_int r2
  refine rB_of op_eq ⟨rfl, ?_⟩
  rw [dint_eq]
  exact hk _ _ w z b (.refl w) (vB _) h
theorem rd_neI (h : Q (.sh (.bool (!decide (i = j)))) z) : RD X (compareOp .NotEq) (.sh (.int i)) (.sh (.int j)) z Q := fun c w σ v u k b r1 r2 hk => by
  cases Dp_int r1
  cases Dp_int r2
  refine rB_of op_ne ⟨rfl, ?_⟩
  rw [dint_eq]
  exact hk _ _ w z b (.refl w) (vB _) h
theorem rd_eqB {p q : Bool} (h : Q (.sh (.bool (decide (p = q)))) z) : RD X (compareOp .Eq) (.sh (.bool p)) (.sh (.bool q)) z Q := fun c w σ v u k b r1 r2 hk => by
  cases Dp_bl r1
  cases Dp_bl r2
  refine rB_of op_eq ⟨rfl, ?_⟩
  rw [show decide ((V.bl p) = .bl q) = decide (p = q) by simp]
  exact hk _ _ w z b (.refl w) (vB _) h
theorem rd_neB {p q : Bool} (h : Q (.sh (.bool (!decide (p = q)))) z) : RD X (compareOp .NotEq) (.sh (.bool p)) (.sh (.bool q)) z Q := fun c w σ v u k b r1 r2 hk => by
  cases Dp_bl r1
  cases Dp_bl r2
  refine rB_of op_ne ⟨rfl, ?_⟩
  rw [show decide ((V.bl p) = .bl q) = decide (p = q) by simp]
  exact hk _ _ w z b (.refl w) (vB _) h
theorem rd_eqS {p q : Str} (h : Q (.sh (.bool (decide (p = q)))) z) : RD X (compareOp .Eq) (.sh (.str p)) (.sh (.str q)) z Q := fun c w σ v u k b r1 r2 hk => by
  cases Dp_str r1
  cases Dp_str r2
  refine rB_of op_eq ⟨rfl, ?_⟩
  rw [show decide ((V.str p) = .str q) = decide (p = q) by simp]
  exact hk _ _ w z b (.refl w) (vB _) h
theorem rd_neS {p q : Str} (h : Q (.sh (.bool (!decide (p = q)))) z) : RD X (compareOp .NotEq) (.sh (.str p)) (.sh (.str q)) z Q := fun c w σ v u k b r1 r2 hk => by
  cases Dp_str r1
  cases Dp_str r2
  refine rB_of op_ne ⟨rfl, ?_⟩
  rw [show decide ((V.str p) = .str q) = decide (p = q) by simp]
  exact hk _ _ w z b (.refl w) (vB _) h
/-- data of any depth -/
theorem Vl.dp {K : PySem.W.Frag} {c : Ct} {w : Wd} {σ : St} (b : B K c w σ z) {v : V} {d : PyData} (h : Vl K w v (.sh d)) : L2.Dp K w.H v d := (Dp_mono b.same h).dp
theorem rd_eqD {d e : PyData} (hu : X.A.units + 64 < cLine) (hd : SeqAt.shaped d = true) (he : SeqAt.shaped e = true) (h : Q (.sh (.bool (PyData.eqv d e))) z) : RD X (compareOp .Eq) (.sh d) (.sh e) z Q := fun c w σ v u k b r1 r2 hk =>
  rB_of (op_eqD hu) ⟨d, e, r1.dp b, r2.dp b, hd, he, hk _ _ w z b (.refl w) (vB _) h⟩
theorem rd_neD {d e : PyData} (hu : X.A.units + 64 < cLine) (hd : SeqAt.shaped d = true) (he : SeqAt.shaped e = true) (h : Q (.sh (.bool (!PyData.eqv d e))) z) : RD X (compareOp .NotEq) (.sh d) (.sh e) z Q := fun c w σ v u k b r1 r2 hk =>
  rB_of (op_neD hu) ⟨d, e, r1.dp b, r2.dp b, hd, he, hk _ _ w z b (.refl w) (vB _) h⟩
def isNone : PyData → Bool
  | .none => true
  | _ => false
theorem Dp_isN {K : PySem.W.Frag} {H : Hp} {v : V} {d : PyData} (h : Dq K H v d) : decide (v = .non) = isNone d := by cases h <;> rfl
theorem rd_isN {d : PyData} (h : Q (.sh (.bool (isNone d))) z) : RD X (compareOp .Is) (.sh d) (.sh .none) z Q := fun c w σ v u k b r1 r2 hk => by
  cases Dp_non r2
  refine rB_of op_isN ⟨rfl, ?_⟩
  rw [Dp_isN r1]
  exact hk _ _ w z b (.refl w) (vB _) h
theorem rd_notN {d : PyData} (h : Q (.sh (.bool (!isNone d))) z) : RD X (compareOp .IsNot) (.sh d) (.sh .none) z Q := fun c w σ v u k b r1 r2 hk => by
  cases Dp_non r2
  refine rB_of op_notN ⟨rfl, ?_⟩
  rw [Dp_isN r1]
  exact hk _ _ w z b (.refl w) (vB _) h
theorem ud_neg (h : Q (.sh (.int (-i))) z) : UD X (unaryOp .USub) (.sh (.int i)) z Q := fun c w σ v k b r1 hk => by
  cases Dp_int r1
  exact uB_of un_neg ⟨i, rfl, hk _ _ w z b (.refl w) (vI _) h⟩
/-! lists: +, * -/
def rCatR (K : PySem.W.Frag) : R2 := fun x y H Q => ∃ l b xs zs, x = .ref l ∧ y = .ref b ∧ Rd H l (.lst xs) ∧ Rd H b (.lst zs) ∧ xs.length + zs.length ≤ sizeLine ∧ ∀ p, H p = none → Q (.ref p) (upd H p (.lst (xs ++ zs)))
theorem op_catR : OpR X (binaryOp .Add) (rCatR X.K) := by
  intro pins s σ H x y v u Q I rx ry h
  obtain ⟨l, b, xs, zs, rfl, rfl, hH, hB, hz, q⟩ := h
  cases rx
  cases ry
  obtain ⟨z, its, n, r, e⟩ := hH.ok I.hok
  obtain ⟨z2, its2, n2, r2, e2⟩ := hB.ok I.hok
  have hl := r.length
  have hl2 := r2.length
  refine PySem.P.add_list e e2 ?_ (by rw [List.size_toArray, List.size_toArray]; omega)
  have ea : its.toArray ++ its2.toArray = (its ++ its2).toArray := by simp
  rw [ea]
  exact ⟨.ref _, _, I.lnew (t' := s.toks) (r.append r2) (by rw [List.length_append]; omega), rfl, q _ I.fresh⟩
theorem DqAll_app {K : PySem.W.Frag} {H : Hp} : ∀ {vs us : List V} {ds es : List PyData}, DqAll K H vs ds → DqAll K H us es → DqAll K H (vs ++ us) (ds ++ es)
  | _, _, _, _, .nil, h => h
  | _, _, _, _, .cons h t, r => .cons h (DqAll_app t r)
theorem rd_catF {ds es : List PyData} (hc : ds.length + es.length ≤ 100000) (h : Q (.sh (.list (ds ++ es))) z) : RD X (binaryOp .Add) (.sh (.list ds)) (.sh (.list es)) z Q := fun c w σ v u k b r1 r2 hk => by
  obtain ⟨p, xs, rfl, h1, s1⟩ := Dp_lstI r1
  obtain ⟨q, ys, rfl, h2, s2⟩ := Dp_lstI r2
  refine rB_of op_catR ⟨p, q, xs, ys, rfl, rfl, Same.rd b.same h1, Same.rd b.same h2, ?_, new_lstF b (DqAll_app s1 s2) hk h⟩
  rw [DpAll_len s1, DpAll_len s2]
  exact Nat.le_trans hc (by decide)
theorem rd_catO {ds es : List PyData} (hc : ds.length + es.length ≤ 100000) (h : Q (.ob z.ob.length) ⟨z.sl, z.ob ++ [.lst ((ds ++ es).map .sh)]⟩) : RD X (binaryOp .Add) (.sh (.list ds)) (.sh (.list es)) z Q := fun c w σ v u k b r1 r2 hk => by
  obtain ⟨p, xs, rfl, h1, s1⟩ := Dp_lstI r1
  obtain ⟨q, ys, rfl, h2, s2⟩ := Dp_lstI r2
  refine rB_of op_catR ⟨p, q, xs, ys, rfl, rfl, Same.rd b.same h1, Same.rd b.same h2, ?_, new_lst b (dp_allSh (DqAll_app s1 s2)) hk h⟩
  rw [DpAll_len s1, DpAll_len s2]
  exact Nat.le_trans hc (by decide)
end

/-! ### subscripts -/
def ixB (X : Cx) : R2 := fun x y H Q => ∀ (value slice : Expr) (pins : List (Addr × Obj)) (s : Shared) (σ : St) (v u : Value), Inv X pins σ H s → RelV x v → RelV y u → subscripted slice false v u = operate [v, u] (getItem v u) →
  wpAny (model X.prog X.w) X.A (subscriptTail value slice v u) (EP X pins σ Q) X.xe s
theorem ixB_op {X : Cx} : IxR X (ixB X) := fun value slice pins s σ _ _ _ v u _ I rx ry h hs => h value slice pins s σ v u I rx ry hs
theorem ixB_of {X : Cx} {r : R2} {H : Hp} {x y : V} {Q : VK} (o : IxR X r) (h : r x y H Q) : ixB X x y H Q := fun value slice pins s σ v u I rx ry hs => o value slice pins s σ H x y v u Q I rx ry h hs
def ID (X : Cx) (x y : Sl) (z : Z) (Q : Sl → Z → Prop) : Prop := ∀ c w σ v u k, B X.K c w σ z → Vl X.K w v x → Vl X.K w u y → Cont X.K c w σ Q k → ixB X v u w.H k
section
variable {X : Cx} {a b : Expr} {z : Z} {pos : Pos} {Q : Sl → Z → Prop}
theorem we_ix (h : WE X a z fun x z1 => WE X b z1 fun y z2 => ID X x y z2 Q) (hs : PlainIx b := by exact fun _ _ => rfl) : WE X (.Subscript a b pos) z Q := fun c w σ k bb hk =>
  tE_of (pe_ix ixB_op peB peB hs) (h c w σ _ bb fun v x w1 z1 b1 l1 q1 h1 => h1 c w1 σ _ b1 fun u y w2 z2 b2 l2 q2 h2 => h2 c w2 σ v u k b2 (q1.mono l2) q2 (hk.le (l1.trans l2)))
theorem atI_paired {α β : Type} {F : α → β → Prop} {xs : List α} {ys : List β} {i : Int} {y : β} (h : Paired F xs ys) (e : atI ys i = some y) : ∃ x, atI xs i = some x ∧ F x y := by
  unfold atI at e ⊢
  rw [h.length]
  obtain ⟨j, h1, h2⟩ := Option.bind_eq_some_iff.mp e
  obtain ⟨x, e1, q⟩ := paired_get h h2
  exact ⟨x, by rw [h1]; exact e1, q⟩
theorem DqAll_paired {K : PySem.W.Frag} {H : Hp} : ∀ {vs : List V} {ds : List PyData}, DqAll K H vs ds → Paired (Dq K H) vs ds
  | _, _, .nil => .nil
  | _, _, .cons h t => .cons h (DqAll_paired t)
theorem paired_DqAll {K : PySem.W.Frag} {H : Hp} : ∀ {vs : List V} {ds : List PyData}, Paired (Dq K H) vs ds → DqAll K H vs ds
  | _, _, .nil => .nil
  | _, _, .cons h t => .cons h (paired_DqAll t)
theorem id_L {ds : List PyData} {i : Int} {d : PyData} (e : atI ds i = some d) (h : Q (.sh d) z) : ID X (.sh (.list ds)) (.sh (.int i)) z Q := fun c w σ v u k b r1 r2 hk => by
  obtain ⟨p, xs, rfl, h1, s1⟩ := Dp_lstI r1
  cases Dp_int r2
  obtain ⟨x, e1, q⟩ := atI_paired (DqAll_paired s1) e
  exact ixB_of ix_list ⟨p, xs, i, x, rfl, rfl, .inl (Same.rd b.same h1), e1, hk _ _ w z b (.refl w) (vsh q) h⟩
theorem id_T {ds : List PyData} {i : Int} {d : PyData} (e : atI ds i = some d) (h : Q (.sh d) z) : ID X (.sh (.tuple ds)) (.sh (.int i)) z Q := fun c w σ v u k b r1 r2 hk => by
  obtain ⟨p, xs, rfl, h1, s1⟩ := Dp_tupI r1
  cases Dp_int r2
  obtain ⟨x, e1, q⟩ := atI_paired (DqAll_paired s1) e
  exact ixB_of ix_tup ⟨p, xs, i, x, rfl, rfl, Same.tup b.same h1, e1, hk _ _ w z b (.refl w) (vsh q) h⟩
theorem id_S {t : Str} {i : Int} {d : Nat} (hl : t.length ≤ sizeLine) (e : atI t.cps.toList i = some d) (h : Q (.sh (.str ⟨#[d]⟩)) z) : ID X (.sh (.str t)) (.sh (.int i)) z Q := fun c w σ v u k b r1 r2 hk => by
  cases Dp_str r1
  cases Dp_int r2
  exact ixB_of ix_str ⟨t, i, d, rfl, rfl, hl, e, hk _ _ w z b (.refl w) (vS _) h⟩
theorem id_O {n : Nat} {xs : List Sl} {i : Int} {y : Sl} (ho : z.ob[n]? = some (.lst xs)) (e : atI xs i = some y) (h : Q y z) : ID X (.ob n) (.sh (.int i)) z Q := fun c w σ v u k b r1 r2 hk => by
  obtain ⟨p, hp, rfl⟩ := r1
  cases Dp_int r2
  obtain ⟨_, vs, hH, hv⟩ := b.ob n _ p ho hp
  obtain ⟨x, e1, q⟩ := atI_paired hv e
  exact ixB_of ix_list ⟨p, vs, i, x, rfl, rfl, .inl (.inl hH), e1, hk _ _ w z b (.refl w) q h⟩
/-! slices -/
def slB (X : Cx) : V → Option Int → Option Int → Hp → VK → Prop := fun x lo hi H Q => ∀ (pins : List (Addr × Obj)) (s : Shared) (σ : St) (v vl vu : Value) (sl : Addr), Inv X pins σ H s → RelV x v → s.heap.IsSliceOf sl vl vu .none → IsPart vl lo → IsPart vu hi →
    ∃ T id, typeLookup (.type T) "__getitem__" = pure (some (.builtin id)) ∧ s.TypeIs v T ∧ wpAny (model X.prog X.w) X.A (getItem v (.ref sl)) (EP X pins σ Q) X.xe s
theorem slB_op : SlR X (slB X) := fun pins s σ _ _ v vl vu lo hi sl _ I rx h1 h2 h3 h => h pins s σ v vl vu sl I rx h1 h2 h3
theorem slB_of {r : V → Option Int → Option Int → Hp → VK → Prop} {H : Hp} {x : V} {lo hi : Option Int} {k : VK} (o : SlR X r) (h : r x lo hi H k) : slB X x lo hi H k := fun pins s σ v vl vu sl I rx h1 h2 h3 => o pins s σ H x v vl vu lo hi sl k I rx h1 h2 h3 h
def SD (X : Cx) (x : Sl) (lo hi : Option Int) (z : Z) (Q : Sl → Z → Prop) : Prop := ∀ c w σ v k, B X.K c w σ z → Vl X.K w v x → Cont X.K c w σ Q k → slB X v lo hi w.H k
def WO (X : Cx) (o : Option Expr) (z : Z) (Q : Option Int → Z → Prop) : Prop := match o with
  | none => Q none z
  | some e => WE X e z fun x z1 => ∃ i, x = .sh (.int i) ∧ Q (some i) z1
def tO (X : Cx) : Option Expr → TO
  | none => tNoPart
  | some e => tPart (tE X e)
theorem poB : ∀ {o : Option Expr}, PO X o (tO X o)
  | none => po_none
  | some _ => po_some peB
theorem wo_ok {P : Option Int → Z → Prop} : ∀ {o : Option Expr}, WO X o z P → ∀ c w σ (k : Option Int → Hp → Prop), B X.K c w σ z → (∀ i w' z', B X.K c w' σ z' → w.Le w' → P i z' → k i w'.H) → tO X o σ w.H k
  | none, h, c, w, σ, k, b, hk => hk none w z b (.refl w) h
  | some _, h, c, w, σ, k, b, hk => h c w σ _ b fun v x w' z' b' l r ⟨i, e, hp⟩ => ⟨i, Dp_int (e ▸ r), hk _ w' z' b' l hp⟩
theorem wo_none {P : Option Int → Z → Prop} (h : P none z) : WO X none z P := h
theorem wo_some {P : Option Int → Z → Prop} (h : WE X a z fun x z1 => ∃ i, x = .sh (.int i) ∧ P (some i) z1) : WO X (some a) z P := h
theorem we_sl {lo hi : Option Expr} {p2 : Pos} (h : WE X a z fun x z1 => WO X lo z1 fun l z2 => WO X hi z2 fun u z3 => SD X x l u z3 Q) : WE X (.Subscript a (.Slice lo hi none p2) pos) z Q := fun c w σ k bb hk =>
  tE_of (pe_slice slB_op peB poB poB) (h c w σ _ bb fun v x w1 z1 b1 l1 q1 h1 => wo_ok h1 c w1 σ _ b1 fun i w2 z2 b2 l2 h2 => wo_ok h2 c w2 σ _ b2 fun j w3 z3 b3 l3 h3 => h3 c w3 σ v k b3 (q1.mono (l2.trans l3)) (hk.le ((l1.trans l2).trans l3)))
def cutL {α : Type} (xs : List α) (lo hi : Option Int) : List α := (xs.drop (HT.sIx xs.length 0 lo)).take (HT.sIx xs.length xs.length hi - HT.sIx xs.length 0 lo)
theorem paired_cut {α β : Type} {F : α → β → Prop} {xs : List α} {ys : List β} (h : Paired F xs ys) (lo hi : Option Int) : Paired F (cutL xs lo hi) (cutL ys lo hi) := by
  unfold cutL
  rw [h.length]
  exact paired_take _ (paired_drop _ h)
theorem sd_LF {ds : List PyData} {lo hi : Option Int} (h : Q (.sh (.list (cutL ds lo hi))) z) : SD X (.sh (.list ds)) lo hi z Q := fun c w σ v k b r1 hk => by
  obtain ⟨p, xs, rfl, h1, s1⟩ := Dp_lstI r1
  exact slB_of sl_list ⟨p, xs, rfl, .inl (Same.rd b.same h1), new_lstF b (paired_DqAll (paired_cut (DqAll_paired s1) lo hi)) hk h⟩
theorem sd_T {ds : List PyData} {lo hi : Option Int} (hw : ¬ (HT.sIx ds.length 0 lo = 0 ∧ HT.sIx ds.length ds.length hi = ds.length)) (h : Q (.sh (.tuple (cutL ds lo hi))) z) : SD X (.sh (.tuple ds)) lo hi z Q := fun c w σ v k b r1 hk => by
  obtain ⟨p, xs, rfl, h1, s1⟩ := Dp_tupI r1
  exact slB_of sl_tup ⟨p, xs, rfl, Same.tup b.same h1, by rw [DpAll_len s1]; exact hw, new_tup b (paired_DqAll (paired_cut (DqAll_paired s1) lo hi)) hk h⟩
theorem sd_S {t : Str} {lo hi : Option Int} (hl : t.length ≤ sizeLine) (h : Q (.sh (.str (cutS t lo hi))) z) : SD X (.sh (.str t)) lo hi z Q := fun c w σ v k b r1 hk => by
  cases Dp_str r1
  exact slB_of sl_str ⟨t, rfl, hl, hk _ _ w z b (.refl w) (vS _) h⟩
end
end Dl

namespace Dl
open PySem PySem.Spec L2
open PyProof.Rows hiding St

/-! ### built-ins by name -/
section
variable {X : Cx} {x : Str} {p pos : Pos} {e : Expr} {es : List Expr} {z : Z} {Q : Sl → Z → Prop} {id T : String}
theorem we_bi (hm : X.mg x = none) (hv : bootBuiltins x = some (.builtin id)) (h : WA X (e :: es) z fun xs z1 => CD X (.builtin id) xs z1 Q) (hg : Gl X x := by rfl) (hn : x ≠ "__name__" := by decide) (hdb : (x == ("__debug__" : Str)) = false := by decide)
    (he : starEach (e :: es) X.env = (false, eval e X.env) :: starEach es X.env := by rfl) (hpl : (backTo pos (starEach es X.env)).any (·.1) = false := by rfl) : WE X (.Call (.Name x p) (e :: es) [] pos) z Q := fun c w σ k bb hk =>
  tE_of (pe_callB cB_op hg hm hv paB hn hdb he hpl) (h c w σ _ bb fun vs xs w1 z1 b1 l1 hv h1 => h1 c w1 σ vs k b1 hv (hk.le l1))
theorem we_ty (hm : X.mg x = none) (hv : bootBuiltins x = some (.type T)) (h : WA X (e :: es) z fun xs z1 => CD X (.type T) xs z1 Q) (hg : Gl X x := by rfl) (hn : x ≠ "__name__" := by decide) (hdb : (x == ("__debug__" : Str)) = false := by decide)
    (he : starEach (e :: es) X.env = (false, eval e X.env) :: starEach es X.env := by rfl) (hpl : (backTo pos (starEach es X.env)).any (·.1) = false := by rfl) : WE X (.Call (.Name x p) (e :: es) [] pos) z Q := fun c w σ k bb hk =>
  tE_of (pe_callTy cB_op hg hm hv paB hn hdb he hpl) (h c w σ _ bb fun vs xs w1 z1 b1 l1 hv h1 => h1 c w1 σ vs k b1 hv (hk.le l1))
theorem p1 {K : PySem.W.Frag} {w : Wd} {vs : List V} {x : Sl} (h : Paired (Vl K w) vs [x]) : ∃ v, vs = [v] ∧ Vl K w v x := by
  cases h with
  | cons q t =>
    cases t
    exact ⟨_, rfl, q⟩
theorem p2 {K : PySem.W.Frag} {w : Wd} {vs : List V} {x y : Sl} (h : Paired (Vl K w) vs [x, y]) : ∃ v u, vs = [v, u] ∧ Vl K w v x ∧ Vl K w u y := by
  cases h with
  | cons q t =>
    obtain ⟨u, rfl, r⟩ := p1 t
    exact ⟨_, _, rfl, q, r⟩
theorem cd_lenL {ds : List PyData} (h : Q (.sh (.int ds.length)) z) : CD X (.builtin "len") [.sh (.list ds)] z Q := fun c w σ vs k b rr hk => by
  obtain ⟨v, rfl, r⟩ := p1 rr
  obtain ⟨p, xs, rfl, h1, s1⟩ := Dp_lstI r
  refine cB_of call_len_seq ⟨p, xs, rfl, .inl (.inl (Same.rd b.same h1)), ?_⟩
  rw [DpAll_len s1]
  exact hk _ _ w z b (.refl w) (vI _) h
theorem cd_lenT {ds : List PyData} (h : Q (.sh (.int ds.length)) z) : CD X (.builtin "len") [.sh (.tuple ds)] z Q := fun c w σ vs k b rr hk => by
  obtain ⟨v, rfl, r⟩ := p1 rr
  obtain ⟨p, xs, rfl, h1, s1⟩ := Dp_tupI r
  refine cB_of call_len_seq ⟨p, xs, rfl, .inr (Same.tup b.same h1), ?_⟩
  rw [DpAll_len s1]
  exact hk _ _ w z b (.refl w) (vI _) h
theorem cd_lenS {t : Str} (hl : t.length ≤ sizeLine) (h : Q (.sh (.int t.length)) z) : CD X (.builtin "len") [.sh (.str t)] z Q := fun c w σ vs k b rr hk => by
  obtain ⟨v, rfl, r⟩ := p1 rr
  cases Dp_str r
  exact cB_of call_len_str ⟨t, rfl, hl, hk _ _ w z b (.refl w) (vI _) h⟩
theorem cd_lenO {i : Nat} {xs : List Sl} (ho : z.ob[i]? = some (.lst xs)) (h : Q (.sh (.int xs.length)) z) : CD X (.builtin "len") [.ob i] z Q := fun c w σ vs k b rr hk => by
  obtain ⟨v, rfl, p, hp, rfl⟩ := p1 rr
  obtain ⟨_, vs, hH, hv⟩ := b.ob i _ p ho hp
  refine cB_of call_len_seq ⟨p, vs, rfl, .inl (.inl (.inl hH)), ?_⟩
  rw [hv.length]
  exact hk _ _ w z b (.refl w) (vI _) h
theorem cd_abs {i : Int} (h : Q (.sh (.int (if i < 0 then -i else i))) z) : CD X (.builtin "abs") [.sh (.int i)] z Q := fun c w σ vs k b rr hk => by
  obtain ⟨v, rfl, r⟩ := p1 rr
  cases Dp_int r
  exact cB_of call_abs ⟨i, rfl, hk _ _ w z b (.refl w) (vI _) h⟩
theorem cd_max {i j : Int} (h : Q (.sh (.int (if j > i then j else i))) z) (hc : X.calm = true := by rfl) : CD X (.builtin "max") [.sh (.int i), .sh (.int j)] z Q := fun c w σ vs k b rr hk => by
  obtain ⟨v, u, rfl, r, r'⟩ := p2 rr
  cases Dp_int r
  cases Dp_int r'
  exact cB_of (call_max2 hc) ⟨i, j, rfl, hk _ _ w z b (.refl w) (vI _) h⟩
theorem cd_min {i j : Int} (h : Q (.sh (.int (if j < i then j else i))) z) (hc : X.calm = true := by rfl) : CD X (.builtin "min") [.sh (.int i), .sh (.int j)] z Q := fun c w σ vs k b rr hk => by
  obtain ⟨v, u, rfl, r, r'⟩ := p2 rr
  cases Dp_int r
  cases Dp_int r'
  exact cB_of (call_min2 hc) ⟨i, j, rfl, hk _ _ w z b (.refl w) (vI _) h⟩
theorem cd_intI {i : Int} (h : Q (.sh (.int i)) z) : CD X (.type "int") [.sh (.int i)] z Q := fun c w σ vs k b rr hk => by
  obtain ⟨v, rfl, r⟩ := p1 rr
  cases Dp_int r
  exact cB_of call_int1 (.inl ⟨i, rfl, hk _ _ w z b (.refl w) (vI _) h⟩)
theorem cd_intB {i : Bool} (h : Q (.sh (.int (if i then 1 else 0))) z) : CD X (.type "int") [.sh (.bool i)] z Q := fun c w σ vs k b rr hk => by
  obtain ⟨v, rfl, r⟩ := p1 rr
  cases Dp_bl r
  exact cB_of call_int1 (.inr ⟨i, rfl, hk _ _ w z b (.refl w) (vI _) h⟩)
def bls : List PyData → Option (List Bool)
  | [] => some []
  | .bool b :: r => (bls r).map (b :: ·)
  | _ => none
theorem bls_v {K : PySem.W.Frag} {H : Hp} : ∀ {ds : List PyData} {vs : List V} {bs : List Bool}, bls ds = some bs → DqAll K H vs ds → vs = bs.map V.bl
  | [], _, _, e, .nil => by
    cases e
    rfl
  | .bool b :: r, _, _, e, .cons q t => by
    unfold bls at e
    obtain ⟨bs, e1, rfl⟩ := Option.map_eq_some_iff.mp e
    rw [bls_v e1 t, Dp_bl q]
    rfl
theorem bls_map (bs : List Bool) : bls (bs.map PyData.bool) = some bs := by
  induction bs with
  | nil => rfl
  | cons b r ih =>
    show (bls (r.map PyData.bool)).map (b :: ·) = _
    rw [ih]
    rfl
theorem cd_all {ds : List PyData} {bs : List Bool} (e : bls ds = some bs) (h : Q (.sh (.bool (bs.all _root_.id))) z) (hc : X.calm = true := by rfl) : CD X (.builtin "all") [.sh (.list ds)] z Q := fun c w σ vs k b rr hk => by
  obtain ⟨v, rfl, r⟩ := p1 rr
  obtain ⟨p, xs, rfl, h1, s1⟩ := Dp_lstI r
  rw [bls_v e s1] at h1
  exact cB_of (cr_all hc) ⟨p, bs, rfl, .inl (Same.rd b.same h1), hk _ _ w z b (.refl w) (vB _) h⟩
theorem cd_any {ds : List PyData} {bs : List Bool} (e : bls ds = some bs) (h : Q (.sh (.bool (bs.any _root_.id))) z) (hc : X.calm = true := by rfl) : CD X (.builtin "any") [.sh (.list ds)] z Q := fun c w σ vs k b rr hk => by
  obtain ⟨v, rfl, r⟩ := p1 rr
  obtain ⟨p, xs, rfl, h1, s1⟩ := Dp_lstI r
  rw [bls_v e s1] at h1
  exact cB_of (cr_any hc) ⟨p, bs, rfl, .inl (Same.rd b.same h1), hk _ _ w z b (.refl w) (vB _) h⟩
theorem cd_listL {ds : List PyData} (h : Q (.sh (.list ds)) z) : CD X (.type "list") [.sh (.list ds)] z Q := fun c w σ vs k b rr hk => by
  obtain ⟨v, rfl, r⟩ := p1 rr
  obtain ⟨p, xs, rfl, h1, s1⟩ := Dp_lstI r
  exact cB_of call_list_of ⟨p, xs, rfl, .inl (.inl (Same.rd b.same h1)), new_lstF b s1 hk h⟩
theorem cd_listT {ds : List PyData} (h : Q (.sh (.list ds)) z) : CD X (.type "list") [.sh (.tuple ds)] z Q := fun c w σ vs k b rr hk => by
  obtain ⟨v, rfl, r⟩ := p1 rr
  obtain ⟨p, xs, rfl, h1, s1⟩ := Dp_tupI r
  exact cB_of call_list_of ⟨p, xs, rfl, .inr (Same.tup b.same h1), new_lstF b s1 hk h⟩
theorem cd_tupL {ds : List PyData} (h : Q (.sh (.tuple ds)) z) : CD X (.type "tuple") [.sh (.list ds)] z Q := fun c w σ vs k b rr hk => by
  obtain ⟨v, rfl, r⟩ := p1 rr
  obtain ⟨p, xs, rfl, h1, s1⟩ := Dp_lstI r
  exact cB_of call_tuple_of ⟨p, xs, rfl, .inl ⟨.inl (Same.rd b.same h1), new_tup b s1 hk h⟩⟩
theorem cd_tupT {ds : List PyData} (h : Q (.sh (.tuple ds)) z) : CD X (.type "tuple") [.sh (.tuple ds)] z Q := fun c w σ vs k b rr hk => by
  obtain ⟨v, rfl, r⟩ := p1 rr
  obtain ⟨p, xs, rfl, h1, s1⟩ := Dp_tupI r
  exact cB_of call_tuple_of ⟨p, xs, rfl, .inr ⟨Same.tup b.same h1, hk _ _ w z b (.refl w) (vsh (Dq.tup h1 s1)) h⟩⟩
theorem DqAll_ints {K : PySem.W.Frag} {H : Hp} : ∀ (ns : List Int), DqAll K H (ns.map V.int) (ns.map PyData.int)
  | [] => .nil
  | n :: ns => .cons (.int n) (DqAll_ints ns)
theorem ints_v {K : PySem.W.Frag} {H : Hp} : ∀ {ns : List Int} {vs : List V}, DqAll K H vs (ns.map PyData.int) → vs = ns.map V.int
  | [], _, .nil => rfl
  | _ :: _, _, .cons q t => by
    rw [List.map_cons, ints_v t, Dp_int q]
/-! isinstance -/
def tyName : PyData → String
  | .none => "NoneType"
  | .bool _ => "bool"
  | .int _ => "int"
  | .str _ => "str"
  | .list _ => "list"
  | .tuple _ => "tuple"
  | .dict _ => "dict"
theorem Dq.ty {K : PySem.W.Frag} {H : Hp} {v : V} {d : PyData} (h : Dq K H v d) : TyX K H v (.type (tyName d)) := by
  cases h with
  | non => exact .base .non
  | bl b => exact .base (.bl b)
  | int i => exact .base (.int i)
  | str x => exact .base (.str x)
  | lst h _ =>
    rcases h with h | ⟨o, h⟩
    · exact .base (.lst h)
    · exact .base (.frz h)
  | tup h _ =>
    rcases h with (h | ⟨o, h⟩) | ⟨o, its, n, h1, h2, _⟩
    · exact .base (.tup h)
    · exact .fTuple h
    · exact .kTuple h1 h2
def Isi (x : Sl) (z : Z) (T : String) (r : Bool) : Prop := match x with
  | .sh d => kitB (tyName d) T = some r
  | .ob i => (∃ xs, z.ob[i]? = some (.lst xs)) ∧ kitB "list" T = some r
  | .no => False
theorem we_isi {a : Expr} {t : Str} {pt : Pos} {Ps : Bool → Prop} (hm : X.mg "isinstance" = none) (hmt : X.mg t = none) (hvt : bootBuiltins t = some (.type T)) (h : WE X a z fun y z1 => ∃ r, Isi y z1 T r ∧ Q (.sh (.bool r)) z1) (hg : Gl X "isinstance" := by rfl) (hgt : Gl X t := by rfl)
    (hnt : t ≠ "__name__" := by decide) (hdt : (t == ("__debug__" : Str)) = false := by decide)
    (he : starEach [a, .Name t pt] X.env = (false, eval a X.env) :: starEach [.Name t pt] X.env := by rfl) (he2 : starEach [.Name t pt] X.env = (false, eval (.Name t pt) X.env) :: starEach [] X.env := by rfl) (hpl : (backTo pos (starEach [.Name t pt] X.env)).any (·.1) = false := by rfl) :
    WE X (.Call (.Name "isinstance" p) [a, .Name t pt] [] pos) z Q := fun c w σ k bb hk =>
  tE_of (pe_callB call_isi hg hm boot_isinstance (pa_cons peB (pa_cons (pe_bltn (v := .ty T) hgt hmt hvt rfl hnt hdt) pa_nil he2) he) (by decide) (by decide) he hpl) (h c w σ _ bb fun v y w1 z1 b1 l1 r1 ⟨r, hi, hq⟩ => by
    have fin : k (.bl r) w1.H := hk _ _ w1 z1 b1 l1 (vB _) hq
    cases y with
    | no => exact hi.elim
    | sh d => exact ⟨v, .ty T, _, _, r, rfl, .ty T, (Dp_mono b1.same r1).ty, kit_ty hi, fin⟩
    | ob i =>
      obtain ⟨p, hp, rfl⟩ := r1
      obtain ⟨⟨xs, ho⟩, hi⟩ := hi
      obtain ⟨_, vs, hH, hv⟩ := b1.ob i _ p ho hp
      exact ⟨.ref p, .ty T, _, _, r, rfl, .ty T, .base (.lst hH), kit_ty hi, fin⟩)
/-- isinstance(x, (T, U)) -/
theorem we_isi2 {a : Expr} {t u : Str} {T U : String} {pt pu ptt : Pos} {x1} (hm : X.mg "isinstance" = none) (hmt : X.mg t = none) (hvt : bootBuiltins t = some (.type T)) (hmu : X.mg u = none) (hvu : bootBuiltins u = some (.type U))
    (h : WE X a z fun y z1 => ∃ r r', Isi y z1 T r ∧ Isi y z1 U r' ∧ Q (.sh (.bool (r || r'))) z1) (hg : Gl X "isinstance" := by rfl) (hgt : Gl X t := by rfl) (hgu : Gl X u := by rfl)
    (hnt : t ≠ "__name__" := by decide) (hdt : (t == ("__debug__" : Str)) = false := by decide) (hnu : u ≠ "__name__" := by decide) (hdu : (u == ("__debug__" : Str)) = false := by decide)
    (he : starEach [a, .Tuple [.Name t pt, .Name u pu] x1 ptt] X.env = (false, eval a X.env) :: starEach [.Tuple [.Name t pt, .Name u pu] x1 ptt] X.env := by rfl)
    (he2 : starEach [.Tuple [.Name t pt, .Name u pu] x1 ptt] X.env = (false, eval (.Tuple [.Name t pt, .Name u pu] x1 ptt) X.env) :: starEach [] X.env := by rfl)
    (he3 : starEach [.Name t pt, .Name u pu] X.env = (false, eval (.Name t pt) X.env) :: starEach [.Name u pu] X.env := by rfl) (he4 : starEach [.Name u pu] X.env = (false, eval (.Name u pu) X.env) :: starEach [] X.env := by rfl)
    (hpl : (backTo pos (starEach [.Tuple [.Name t pt, .Name u pu] x1 ptt] X.env)).any (·.1) = false := by rfl) :
    WE X (.Call (.Name "isinstance" p) [a, .Tuple [.Name t pt, .Name u pu] x1 ptt] [] pos) z Q := fun c w σ k bb hk =>
  tE_of (pe_callB call_isiT hg hm boot_isinstance (pa_cons peB (pa_cons (pe_tup (pa_cons (pe_bltn (v := .ty T) hgt hmt hvt rfl hnt hdt) (pa_cons (pe_bltn (v := .ty U) hgu hmu hvu rfl hnu hdu) pa_nil he4) he3)) pa_nil he2) he) (by decide) (by decide) he hpl) (h c w σ _ bb fun v y w1 z1 b1 l1 r1 ⟨r, r', hi, hi', hq⟩ => by
    refine ⟨show 2 ≤ sizeLine by decide, fun tp hn => ?_⟩
    have as := b1.asideNew hn
    have b2 := b1.aside (o := .tup [.ty T, .ty U]) as
    have l2 : w1.Le ⟨w1.rho, w1.S, upd w1.H tp (.tup [.ty T, .ty U])⟩ := le_aside
    have fin : k (.bl (r || r')) (upd w1.H tp (.tup [.ty T, .ty U])) := hk _ _ _ z1 b2 (l1.trans l2) (vB _) hq
    have any : ∀ {n : String}, kitB n T = some r → kitB n U = some r' → PySem.W.kitAny X.K (.type n) [.type T, .type U] = some (r || r') := fun {n} h1 h2 => by
      refine kitAny_cons (kit_ty h1) (fun e => ?_) (fun e => by rw [e]; rfl)
      rw [e, Bool.false_or]
      exact kitAny_cons (kit_ty h2) (fun e => by rw [e]; exact kitAny_nil) (fun e => e)
    cases y with
    | no => exact hi.elim
    | sh d => exact ⟨v, tp, _, _, _, _, rfl, upd_same, .cons (.ty T) (.cons (.ty U) .nil), (Dp_mono b2.same r1).ty, any hi hi', fin⟩
    | ob i =>
      obtain ⟨p, hp, rfl⟩ := r1
      obtain ⟨⟨xs, ho⟩, hi⟩ := hi
      obtain ⟨_, hi'⟩ := hi'
      obtain ⟨_, vs, hH, hv⟩ := b2.ob i _ p ho hp
      exact ⟨.ref p, tp, _, _, _, _, rfl, upd_same, .cons (.ty T) (.cons (.ty U) .nil), .base (.lst hH), any hi hi', fin⟩)
end

/-! ### methods of a list of the store -/
section
variable {X : Cx} {o e : Expr} {es : List Expr} {name : Str} {apos cpos : Pos} {id : String} {z : Z} {Q : Sl → Z → Prop}
def MO (X : Cx) (id : String) (i : Nat) (ys : List Sl) (z : Z) (Q : Sl → Z → Prop) : Prop := ∀ c w σ p vs k, B X.K c w σ z → w.rho[i]? = some p → Paired (Vl X.K w) vs ys → Cont X.K c w σ Q k → mB X id (.ref p) vs w.H k
theorem we_mO (slot : Slot "list" name id) (hty : typeOf (.builtin id) = pure (.type "method_descriptor")) (h : WE X o z fun x z1 => ∃ i xs, x = .ob i ∧ z1.ob[i]? = some (.lst xs) ∧ WA X (e :: es) z1 fun ys z2 => MO X id i ys z2 Q)
    (hbase : attributeBase o name X.env (eval o X.env) = eval o X.env := by rfl)
    (hfew : ((backTo cpos (starEach (e :: es) X.env)).all (fun x => !x.1) && (backToKw cpos (keywordEach [] X.env)).all (fun x => x.1.isSome)
      && decide ((e :: es).length + ([] : List Keyword).length + (if ([] : List Keyword).isEmpty then 0 else 1) < 30)) = true := by rfl)
    (hline : (apos.endLine == cpos.line) = true := by rfl) (hs : starEach (e :: es) X.env = (false, eval e X.env) :: starEach es X.env := by rfl) (hplain : (backTo cpos (starEach es X.env)).any (·.1) = false := by rfl) :
    WE X (.Call (.Attribute o name apos) (e :: es) [] cpos) z Q := fun c w σ k bb hk =>
  tE_of (pe_bm F.plainAttrs_list slot hty mB_op peB paB hbase hfew hline hs hplain) (h c w σ _ bb fun v x w1 z1 b1 l1 r1 ⟨i, xs, e1, ho, h1⟩ => by
    subst e1
    obtain ⟨p, hp, rfl⟩ := r1
    obtain ⟨_, vs, hH, hv⟩ := b1.ob i _ p ho hp
    exact ⟨.inl ⟨rfl, vs, .inl (.inl hH)⟩, h1 c w1 σ _ b1 fun us ys w2 z2 b2 l2 r2 h2 => h2 c w2 σ p us k b2 (l2.rho i p hp) r2 (hk.le (l1.trans l2))⟩)
theorem we_mO0 (slot : Slot "list" name id) (hty : typeOf (.builtin id) = pure (.type "method_descriptor")) (h : WE X o z fun x z1 => ∃ i xs, x = .ob i ∧ z1.ob[i]? = some (.lst xs) ∧ MO X id i [] z1 Q)
    (hbase : attributeBase o name X.env (eval o X.env) = eval o X.env := by rfl) (hline : (apos.endLine == cpos.line) = true := by rfl) : WE X (.Call (.Attribute o name apos) [] [] cpos) z Q := fun c w σ k bb hk =>
  tE_of (pe_bm0 F.plainAttrs_list slot hty mB_op peB hbase hline) (h c w σ _ bb fun v x w1 z1 b1 l1 r1 ⟨i, xs, e1, ho, h1⟩ => by
    subst e1
    obtain ⟨p, hp, rfl⟩ := r1
    obtain ⟨_, vs, hH, hv⟩ := b1.ob i _ p ho hp
    exact ⟨.inl ⟨rfl, vs, .inl (.inl hH)⟩, h1 c w1 σ p [] k b1 hp .nil (hk.le l1)⟩)
theorem mo_append {i : Nat} {xs : List Sl} {y : Sl} (ho : z.ob[i]? = some (.lst xs)) (hl : xs.length < 100000) (h : Q (.sh .none) ⟨z.sl, z.ob.set i (.lst (xs ++ [y]))⟩) : MO X "list.append" i [y] z Q := fun c w σ p vs k b hp rr hk => by
  obtain ⟨v, rfl, r⟩ := p1 rr
  obtain ⟨_, us, hH, hv⟩ := b.ob i _ p ho hp
  refine mB_of mt_append ⟨p, us, v, rfl, rfl, hH, ?_, hk _ _ _ _ (b.setO ho hp (hv.snoc r)) le_set vN h⟩
  rw [hv.length]
  exact Nat.lt_of_lt_of_le hl (by decide)
theorem dropLast_paired {α β : Type} {F : α → β → Prop} : ∀ {xs : List α} {ys : List β}, Paired F xs ys → Paired F xs.dropLast ys.dropLast
  | _, _, .nil => .nil
  | _, _, .cons q .nil => .nil
  | _, _, .cons q (.cons q' t) => .cons q (dropLast_paired (.cons q' t))
theorem mo_pop {i : Nat} {xs : List Sl} {y : Sl} (ho : z.ob[i]? = some (.lst (xs ++ [y]))) (h : Q y ⟨z.sl, z.ob.set i (.lst xs)⟩) : MO X "list.pop" i [] z Q := fun c w σ p vs k b hp rr hk => by
  cases rr
  obtain ⟨_, us, hH, hv⟩ := b.ob i _ p ho hp
  have hl := hv.length
  rw [List.length_append, List.length_singleton] at hl
  obtain ⟨v, e1, q⟩ := paired_get (i := xs.length) hv (by rw [List.getElem?_append_right (Nat.le_refl _), Nat.sub_self]; rfl)
  have hd := dropLast_paired hv
  rw [List.dropLast_concat] at hd
  refine mB_of mt_pop ⟨p, us, v, rfl, rfl, hH, by rw [hl]; exact e1, hk _ _ _ _ (b.setO ho hp hd) le_set (q.mono le_set) h⟩
theorem mo_reverse {i : Nat} {xs : List Sl} (ho : z.ob[i]? = some (.lst xs)) (h : Q (.sh .none) ⟨z.sl, z.ob.set i (.lst xs.reverse)⟩) : MO X "list.reverse" i [] z Q := fun c w σ p vs k b hp rr hk => by
  cases rr
  obtain ⟨_, us, hH, hv⟩ := b.ob i _ p ho hp
  exact mB_of mt_reverse ⟨p, us, rfl, rfl, hH, hk _ _ _ _ (b.setO ho hp (paired_rev hv)) le_set vN h⟩
theorem rExtR : MtM X "list.extend" (fun x vs H Q => ∃ l b xs zs, x = .ref l ∧ vs = [.ref b] ∧ H l = some (.lst xs) ∧ Rd H b (.lst zs) ∧ xs.length + zs.length ≤ sizeLine ∧ Q .non (upd H l (.lst (xs ++ zs)))) := by
  intro pins s σ H x vs v us Q I rx rv h
  obtain ⟨l, b, xs, zs, rfl, rfl, hH, hB, hz, q⟩ := h
  cases rx
  obtain ⟨u, rfl, ru⟩ := rv.one
  cases ru
  obtain ⟨z, its, n, r, hl, e⟩ := I.lstM hH
  obtain ⟨z2, its2, n2, r2, e2⟩ := hB.ok I.hok
  have hl2 := r2.length
  have hsz : its.toArray.size + its2.toArray.size ≤ sizeLine := by rw [List.size_toArray, List.size_toArray]; omega
  have hlong : ¬ (!its.toArray.isEmpty && Builtin.List.listTooLong (its.toArray.size + its2.toArray.size)) = true := by
    rw [notLongL hsz, Bool.and_false]
    exact Bool.false_ne_true
  refine call_meets F.slot_list_extend ⟨_, e, rfl⟩ F.entry_list_extend (F.args_list_extend_2 _ _)
    (AutoSeq1.list_extend_list_list_0 l its.toArray n b its2.toArray n2 hlong (by rw [List.size_toArray]; omega) (by omega)) ⟨e, e2, ?_⟩
  refine ⟨.non, _, I.lset (its' := its ++ its2) hH e (by simp) (r.append r2) ?_, rfl, q⟩
  rw [List.length_append]
  omega
theorem mo_extendF {i : Nat} {xs : List Sl} {ds : List PyData} (ho : z.ob[i]? = some (.lst xs)) (hl : xs.length + ds.length ≤ 100000) (h : Q (.sh .none) ⟨z.sl, z.ob.set i (.lst (xs ++ ds.map .sh))⟩) : MO X "list.extend" i [.sh (.list ds)] z Q := fun c w σ p vs k b hp rr hk => by
  obtain ⟨v, rfl, r⟩ := p1 rr
  obtain ⟨_, us, hH, hv⟩ := b.ob i _ p ho hp
  obtain ⟨q, zs, rfl, h1, s1⟩ := Dp_lstI r
  refine mB_of rExtR ⟨p, q, us, zs, rfl, rfl, hH, Same.rd b.same h1, ?_, hk _ _ _ _ (b.setO ho hp (paired_app hv (dp_allSh s1))) le_set vN h⟩
  rw [hv.length, DpAll_len s1]
  exact Nat.le_trans hl (by decide)
end
end Dl

namespace Dl
open PySem PySem.Spec L2
open PyProof.Rows hiding St

/-! ### stores -/
section
variable {X : Cx} {o i e : Expr} {z : Z} {pos tpos : Pos} {Q : Out → Prop}
theorem w1_setIx (h : WE X e z fun x z1 => WE X o z1 fun y z2 => WE X i z2 fun u z3 => ∃ n xs k j, y = .ob n ∧ z3.ob[n]? = some (.lst xs) ∧ u = .sh (.int k) ∧ ixN xs.length k = some j ∧ Q (.nx ⟨z3.sl, z3.ob.set n (.lst (xs.set j x))⟩))
    (ha : ∀ v, assign (.Subscript o i tpos) X.env v = (do
      let ov ← holding [v] (eval o X.env)
      let iv ← holding [v, ov] (eval i X.env)
      standAt tpos
      holding [v, ov, iv] (setItem ov iv v)
      release [v, ov, iv] []) := by intro _; rfl)
    (hs : swapsWithSole [.Subscript o i tpos] e pos.line X.env = pure false := by rfl) (hw : swappedStores [.Subscript o i tpos] e X.env = pure none := by rfl)
    (h1 : (assignEach [.Subscript o i tpos] X.env).map (·.2) = [assign (.Subscript o i tpos) X.env] := by rfl) : W1 X (.Assign [.Subscript o i tpos] e pos) z Q := fun c w σ D bb hk =>
  tS_of (ps_asg peB (pg_sub peB peB set_list ha) hs hw h1) (h c w σ _ bb fun v x w1 z1 b1 l1 r1 h1 => h1 c w1 σ _ b1 fun u y w2 z2 b2 l2 r2 h2 => h2 c w2 σ _ b2 fun t s w3 z3 b3 l3 r3 ⟨n, xs, kk, j, e1, ho, e2, hj, hq⟩ => by
    subst e1 e2
    obtain ⟨p, hp, rfl⟩ := r2.mono l3
    cases Dp_int r3
    obtain ⟨_, vs, hH, hv⟩ := b3.ob n _ p ho hp
    exact ⟨p, vs, kk, j, rfl, rfl, hH, by rw [hv.length]; exact hj, hk.nx _ σ _ (b3.setO ho hp (paired_set (r1.mono (l2.trans l3)) j hv)) (((l1.trans l2).trans l3).trans le_set) hq⟩)
/-- a, b = e: a tuple taken apart -/
theorem pgs_names : ∀ {is : List Nat} {ts : List Expr}, Paired (fun (i : Nat) (t : Expr) => PG X t (gName i) ∧ (∀ ts, assignEach (t :: ts) X.env = (false, assign t X.env) :: assignEach ts X.env)) is ts → PGs X ts (gNames is)
  | _, _, .nil => pgs_nil
  | _, _, .cons h t => pgs_cons h.1 (pgs_names t) (by rw [h.2]; rfl)
theorem w1_asgT {tg : Expr} {g : TG} {vs : List Nat} (hg : PG X tg g) (h : WE X e z fun x z1 => GD X.K vs g x z1 fun z2 => Q (.nx z2)) (hs : swapsWithSole [tg] e pos.line X.env = pure false := by rfl) (hw : swappedStores [tg] e X.env = pure none := by rfl)
    (h1 : (assignEach [tg] X.env).map (·.2) = [assign tg X.env] := by rfl) : W1 X (.Assign [tg] e pos) z Q := fun c w σ D bb hk =>
  tS_of (ps_asg peB hg hs hw h1) (h c w σ _ bb fun v x w1 z1 b1 l1 r1 hd => hd c w1 σ v _ b1 r1 fun w2 σ2 z2 b2 l2 _ hq => hk.nx w2 σ2 z2 b2 (l1.trans l2) hq)
/-- a, b = x, y -/
theorem w1_par {n m : Nat} {x y : Str} {a b : Expr} {px py pt : Pos} {kt k2 pt2} (hN : X.N.Nodup) (hi : X.N[n]? = some x) (hj : X.N[m]? = some y) (hij : n ≠ m)
    (h : WE X a z fun u z1 => WE X b z1 fun v z2 => Q (.nx ⟨(z2.sl.set n u).set m v, z2.ob⟩))
    (hw : swappedStores [.Tuple [.Name x px, .Name y py] kt pt] (.Tuple [a, b] k2 pt2) X.env = pure (some [x, y]) := by rfl)
    (hs : swapsWithSole [.Tuple [.Name x px, .Name y py] kt pt] (.Tuple [a, b] k2 pt2) pos.line X.env = pure false := by rfl)
    (hx : X.env.scope.names.lookup x = some .local := by rfl) (hy : X.env.scope.names.lookup y = some .local := by rfl) (hc : X.calm = true := by rfl)
    (he : starEach [a, b] X.env = (false, eval a X.env) :: starEach [b] X.env := by rfl) (he2 : starEach [b] X.env = (false, eval b X.env) :: starEach [] X.env := by rfl) :
    W1 X (.Assign [.Tuple [.Name x px, .Name y py] kt pt] (.Tuple [a, b] k2 pt2) pos) z Q := fun c w σ D bb hk =>
  tS_of (ps_par hc hN hi hj hij hx hy (pa_cons peB (pa_cons peB pa_nil he2) he) hw hs) (h c w σ _ bb fun v x w1 z1 b1 l1 r1 h1 => h1 c w1 σ _ b1 fun u y w2 z2 b2 l2 r2 hq =>
    ⟨v, u, rfl, hk.nx w2 _ _ ((b2.setSl (r1.mono l2)).setSl r2) (l1.trans l2) hq⟩)
end

/-! ### zip, tuples made on the way -/
section
variable {X : Cx} {e e2 : Expr} {z : Z} {pos p tpos : Pos} {elts : List Expr} {kk : Nat} {R : List Sl → (Z → Prop) → Z → Prop}
def zipD : List PyData → List PyData → List PyData
  | a :: as, b :: bs => .tuple [a, b] :: zipD as bs
  | _, _ => []
theorem zipD_get : ∀ {as bs : List PyData} {i : Nat} {d : PyData}, (zipD as bs)[i]? = some d → ∃ a b, as[i]? = some a ∧ bs[i]? = some b ∧ d = .tuple [a, b]
  | [], _, _, _, h => by simp [zipD] at h
  | _ :: _, [], _, _, h => by simp [zipD] at h
  | a :: as, b :: bs, 0, d, h => by
    simp [zipD] at h
    exact ⟨a, b, rfl, rfl, h.symm⟩
  | a :: as, b :: bs, i + 1, d, h => by
    simp only [zipD, List.getElem?_cons_succ] at h
    exact zipD_get (as := as) (bs := bs) (i := i) h
theorem zipD_len : ∀ (as bs : List PyData), (zipD as bs).length = min as.length bs.length
  | [], _ => by simp [zipD]
  | _ :: _, [] => by simp [zipD]
  | _ :: as, _ :: bs => by
    simp only [zipD, List.length_cons, zipD_len as bs]
    omega
/-- two lists, or two tuples -/
inductive TwoSeq : Sl → Sl → List PyData → List PyData → Prop
  | ls (as bs : List PyData) : TwoSeq (.sh (.list as)) (.sh (.list bs)) as bs
  | ts (as bs : List PyData) : TwoSeq (.sh (.tuple as)) (.sh (.tuple bs)) as bs
theorem pair_new {K : PySem.W.Frag} {c : Ct} {w : Wd} {σ : St} {T : Addr} {x y : V} {a b : PyData} (bb : B K c w σ z) (hT : w.H T = none) (h1 : Dq K w.S x a) (h2 : Dq K w.S y b) :
    ∃ w', w'.H = upd w.H T (.tup [x, y]) ∧ B K c w' σ z ∧ w.Le w' ∧ Vl K w' (.ref T) (.sh (.tuple [a, b])) := by
  have l : w.Le ⟨w.rho, upd w.S T (.tup [x, y]), upd w.H T (.tup [x, y])⟩ := le_new (bb.freshS hT)
  exact ⟨_, rfl, bb.newS hT, l, Dq.tup (.inl (.inl upd_same)) (.cons (Dp_mono l.st h1) (.cons (Dp_mono l.st h2) .nil))⟩
theorem wi_zip (hm : X.mg "zip" = none) (h : WE X e z fun x z1 => WE X e2 z1 fun y z2 => ∃ as bs, TwoSeq x y as bs ∧ R ((zipD as bs).map .sh) (fun _ => True) z2) (hg : Gl X "zip" := by rfl)
    (hs : starEach [e, e2] X.env = (false, eval e X.env) :: starEach [e2] X.env := by rfl) (hs2 : starEach [e2] X.env = (false, eval e2 X.env) :: starEach [] X.env := by rfl) (hpl : (backTo pos (starEach [e2] X.env)).any (·.1) = false := by rfl) :
    WI X (.Tuple elts kk tpos) (.Call (.Name "zip" p) [e, e2] [] pos) z R := fun c w σ k bb hk =>
  tI_of (RZ.pi_zipA hg hm (pa_cons peB (pa_cons peB pa_nil hs2) hs) hs hpl) (h c w σ _ bb fun v x w1 z1 b1 l1 r1 h1 => h1 c w1 σ _ b1 fun u y w2 z2 b2 l2 r2 ⟨as, bs, ht, hR⟩ => by
    have r1 := r1.mono l2
    have hlen : ((zipD as bs).map Sl.sh).length = min as.length bs.length := by rw [List.length_map, zipD_len]
    cases ht with
    | ls =>
      obtain ⟨a, xs, rfl, h1, s1⟩ := Dp_lstI r1
      obtain ⟨b, ys, rfl, h2, s2⟩ := Dp_lstI r2
      have e1 := DpAll_len s1
      have e2 := DpAll_len s2
      refine ⟨a, b, xs, ys, rfl, .inl ⟨.inl (Same.rd b2.same h1), .inl (Same.rd b2.same h2), hk _ _ _ w2 z2 b2 (l1.trans l2) ⟨fun i c' w3 σ3 z3 hi b3 l3 _ => ?_, fun c' w3 σ3 z3 b3 l3 _ => ?_, fun i c' w3 σ3 z3 x H' y hy b3 l3 _ hyl => ?_⟩ hR⟩⟩
      · rw [hlen] at hi
        exact ⟨xs, ys, xs[i]'(by omega), ys[i]'(by omega), .inl (Same.rd b3.same (Same.rd l3.st h1)), .inl (Same.rd b3.same (Same.rd l3.st h2)), List.getElem?_eq_getElem _, List.getElem?_eq_getElem _⟩
      · rw [hlen]
        exact ⟨xs, ys, .inl (Same.rd b3.same (Same.rd l3.st h1)), .inl (Same.rd b3.same (Same.rd l3.st h2)), by omega⟩
      · obtain ⟨T, x1, x2, rfl, hT, rfl, f1, f2⟩ := hyl
        rw [List.getElem?_map] at hy
        obtain ⟨d, hd, rfl⟩ := Option.map_eq_some_iff.mp hy
        obtain ⟨da, db, g1, g2, rfl⟩ := zipD_get hd
        obtain ⟨v1, q1, t1⟩ := paired_get (DqAll_paired s1) g1
        obtain ⟨v2, q2, t2⟩ := paired_get (DqAll_paired s2) g2
        have e3 := f1 xs (.inl (Same.rd b3.same (Same.rd l3.st h1)))
        have e4 := f2 ys (.inl (Same.rd b3.same (Same.rd l3.st h2)))
        rw [q1] at e3
        rw [q2] at e4
        cases e3
        cases e4
        exact pair_new b3 hT (Dp_mono l3.st t1) (Dp_mono l3.st t2)
    | ts =>
      obtain ⟨a, xs, rfl, h1, s1⟩ := Dp_tupI r1
      obtain ⟨b, ys, rfl, h2, s2⟩ := Dp_tupI r2
      have e1 := DpAll_len s1
      have e2 := DpAll_len s2
      refine ⟨a, b, xs, ys, rfl, .inr ⟨Same.tup b2.same h1, Same.tup b2.same h2, hk _ _ _ w2 z2 b2 (l1.trans l2) ⟨fun i c' w3 σ3 z3 hi b3 l3 _ => ?_, fun c' w3 σ3 z3 b3 l3 _ => ?_, fun i c' w3 σ3 z3 x H' y hy b3 l3 _ hyl => ?_⟩ hR⟩⟩
      · rw [hlen] at hi
        exact ⟨xs, ys, xs[i]'(by omega), ys[i]'(by omega), Same.tup b3.same (Same.tup l3.st h1), Same.tup b3.same (Same.tup l3.st h2), List.getElem?_eq_getElem _, List.getElem?_eq_getElem _⟩
      · rw [hlen]
        exact ⟨xs, ys, Same.tup b3.same (Same.tup l3.st h1), Same.tup b3.same (Same.tup l3.st h2), by omega⟩
      · obtain ⟨T, x1, x2, rfl, hT, rfl, f1, f2⟩ := hyl
        rw [List.getElem?_map] at hy
        obtain ⟨d, hd, rfl⟩ := Option.map_eq_some_iff.mp hy
        obtain ⟨da, db, g1, g2, rfl⟩ := zipD_get hd
        obtain ⟨v1, q1, t1⟩ := paired_get (DqAll_paired s1) g1
        obtain ⟨v2, q2, t2⟩ := paired_get (DqAll_paired s2) g2
        have e3 := f1 xs (Same.tup b3.same (Same.tup l3.st h1))
        have e4 := f2 ys (Same.tup b3.same (Same.tup l3.st h2))
        rw [q1] at e3
        rw [q2] at e4
        cases e3
        cases e4
        exact pair_new b3 hT (Dp_mono l3.st t1) (Dp_mono l3.st t2))
end

/-! ### the box that is drawn from -/
structure Bx where
  a : Int
  s : Int
  c : Int
def Bx.ds (b : Bx) : List PyData := [.int b.a, .int b.s, .int b.c]
def Bx.o (b : Bx) : OO := .lst [.sh (.int b.a), .sh (.int b.s), .sh (.int b.c)]
structure Bx.Ok (b : Bx) (n : Nat) : Prop where
  a0 : 0 ≤ b.a
  s0 : 0 ≤ b.s
  s1 : b.s < 1099511627776
  c0 : 0 ≤ b.c
  c1 : b.c + (n : Int) ≤ 1099511627776
theorem Bx.Ok.mono {b : Bx} {n m : Nat} (h : b.Ok n) (l : m ≤ n) : b.Ok m := ⟨h.a0, h.s0, h.s1, h.c0, by have := h.c1; omega⟩
/-- behind at most n draws -/
structure Bx.Le (b b' : Bx) (n : Nat) : Prop where
  ok : b'.Ok 0
  le : b'.c ≤ b.c + (n : Int)
theorem Bx.Le.trans {b b1 b2 : Bx} {n m : Nat} (h : b.Le b1 n) (k : b1.Le b2 m) : b.Le b2 (n + m) := ⟨k.ok, by have := h.le; have := k.le; omega⟩
theorem Bx.Le.mono {b b1 : Bx} {n m : Nat} (h : b.Le b1 n) (k : n ≤ m) : b.Le b1 m := ⟨h.ok, by have := h.le; omega⟩
theorem Bx.Ok.after {b b' : Bx} {n m k : Nat} (h : b.Ok n) (l : b.Le b' m) (hk : m + k ≤ n) : b'.Ok k := ⟨l.ok.a0, l.ok.s0, l.ok.s1, l.ok.c0, by have := h.c1; have := l.le; omega⟩
/-- a box first, then data: by what is asked of the data, how many draws, what is told -/
def BoxD (Pre : List PyData → Prop) (cost : List PyData → Nat) (Post : List PyData → PyData → Prop) : Rl := fun xs om Q => ∃ (b : Bx) (ds : List PyData), xs = .ob 0 :: ds.map .sh ∧ om = [b.o] ∧ b.Ok (cost ds) ∧ Pre ds ∧
  ∀ d b', Post ds d → b.Le b' (cost ds) → Q (.sh d) [b'.o]
section
variable {X : Cx} {x : Str} {p pos : Pos} {e : Expr} {es : List Expr} {z : Z} {Q : Sl → Z → Prop} {k kk : Nat} {ps : List Str}
theorem Bx.allSh (b : Bx) : Dl.allSh [.sh (.int b.a), .sh (.int b.s), .sh (.int b.c)] = some b.ds := rfl
theorem we_callX {Pre : List PyData → Prop} {cost : List PyData → Nat} {Post : List PyData → PyData → Prop} (G : Df X.prog X.w X.K X.mg X.base x k ps (BoxD Pre cost Post)) (hr : Room kk X.A) (hle : k ≤ kk)
    (h : WA X (e :: es) z fun xs z1 => ∃ i ys ds b, xs = .ob i :: ys ∧ Dl.allSh ys = some ds ∧ z1.ob[i]? = some (Bx.o b) ∧ b.Ok (cost ds) ∧ Pre ds ∧ xs.length = ps.length ∧ ∀ d b', Post ds d → b.Le b' (cost ds) → Q (.sh d) ⟨z1.sl, z1.ob.set i b'.o⟩)
    (hg : Gl X x := by rfl) (hd : (x == ("__debug__" : Str)) = false := by decide) (he : starEach (e :: es) X.env = (false, eval e X.env) :: starEach es X.env := by rfl)
    (hpl : (backTo pos (starEach es X.env)).any (·.1) = false := by rfl) : WE X (.Call (.Name x p) (e :: es) [] pos) z Q := by
  obtain ⟨f, fd, G, hm, hk, hb⟩ := G.ex
  refine fun c w σ kk bb hkk => tE_of (pe_call G (hr.mono hle) hg hm hk hb .nil pass0x paB hd he hpl) (h c w σ _ bb fun vs xs w1 z1 b1 l1 hv ⟨i, ys, ds, bx, e1, hx, ho, hok, hP, hn, hQ⟩ => ?_)
  subst e1
  rw [List.append_nil]
  have hk2 := hkk.le l1
  cases hv with
  | cons h1 ht =>
    obtain ⟨q, hp, rfl⟩ := h1
    refine ⟨by rw [List.length_cons, ht.length]; exact hn, ⟨[q], w1.S, w1.H⟩, .ob 0 :: ys, [bx.o], fun y om => ∃ d b', Post ds d ∧ bx.Le b' (cost ds) ∧ y = .sh d ∧ om = [b'.o], rfl, b1.ent1 hp ho bx.allSh, .cons ⟨q, rfl, rfl⟩ ?_,
      ⟨bx, ds, by rw [allSh_eq hx], rfl, hok, hP, fun d b' h1 h2 => ⟨d, b', h1, h2, rfl, rfl⟩⟩, fun y om' v w' hq b' r => ?_⟩
    · rw [allSh_eq hx]
      exact dp_allSh (w := ⟨[q], w1.S, w1.H⟩) (allSh_dp (w := w1) hx ht)
    · obtain ⟨d, b3, hPo, hLe, rfl, rfl⟩ := hq
      obtain ⟨b2, l⟩ := b1.back1 hp b'
      refine hk2 v (.sh d) ⟨w1.rho ++ w'.rho.drop 1, w'.S, w'.H⟩ _ ?_ l r (hQ d b3 hPo hLe)
      have : z1.ob.set i (mpO1 i z1.ob.length b3.o) ++ ([] : List OO).map (mpO1 i z1.ob.length) = z1.ob.set i b3.o := by
        show z1.ob.set i b3.o ++ [] = _
        rw [List.append_nil]
      rw [this] at b2
      exact b2
end
end Dl

namespace Dl
open PySem PySem.Spec L2
open PyProof.Rows hiding St

/-! ### names by facts that are shown once -/
structure Nm (X : Cx) (x : Str) (i : Nat) : Prop where
  n : X.N[i]? = some x
  v : Vis X.env.scope x
  d : (x == ("__debug__" : Str)) = false
  c : (x == ("__classdict__" : Str)) = false
structure Ns (X : Cx) (x : Str) (i : Nat) : Prop where
  nd : X.N.Nodup
  n : X.N[i]? = some x
  l : Loc X.env.scope x
  f : X.fn x = true ∨ X.env.scope.names.lookup x = some .local
structure Gn (X : Cx) (x : Str) : Prop where
  g : Gl X x
  d : (x == ("__debug__" : Str)) = false
  n : x ≠ "__name__"
def nkB (o : Option NameKind) (k : NameKind) : Bool := match o, k with
  | some .local, .local => true
  | some .cell, .cell => true
  | some .free, .free => true
  | some .globalImplicit, .globalImplicit => true
  | _, _ => false
theorem nkB_eq {o : Option NameKind} {k : NameKind} (h : nkB o k = true) : o = some k := by
  unfold nkB at h
  split at h <;> first | rfl | cases h
def nmB (N : List Str) (sc : Scope) (p : Str × Nat) : Bool := decide (N[p.2]? = some p.1) && (nkB (sc.names.lookup p.1) .local || nkB (sc.names.lookup p.1) .cell || nkB (sc.names.lookup p.1) .free) && !(p.1 == ("__debug__" : Str)) && !(p.1 == ("__classdict__" : Str))
def nsB (N : List Str) (sc : Scope) (p : Str × Nat) : Bool := decide (N[p.2]? = some p.1) && (nkB (sc.names.lookup p.1) .local || nkB (sc.names.lookup p.1) .cell)
def gnB (sc : Scope) (x : Str) : Bool := nkB (sc.names.lookup x) .globalImplicit && !(x == ("__debug__" : Str)) && !decide (x = ("__name__" : Str))
section
variable {X : Cx} {N : List Str} {sc : Scope} {x : Str} {i : Nat}
theorem nm_of (eN : X.N = N) (es : X.env.scope = sc) (h : nmB N sc (x, i) = true) : Nm X x i := by
  unfold nmB at h
  simp only [Bool.and_eq_true, Bool.or_eq_true, decide_eq_true_eq, Bool.not_eq_true'] at h
  obtain ⟨⟨⟨h1, h2⟩, h3⟩, h4⟩ := h
  refine ⟨by rw [eN]; exact h1, ?_, h3, h4⟩
  rw [es]
  rcases h2 with (h | h) | h
  · exact .inl (nkB_eq h)
  · exact .inr (.inl (nkB_eq h))
  · exact .inr (.inr (nkB_eq h))
theorem ns_of (eN : X.N = N) (es : X.env.scope = sc) (nd : N.Nodup) (hf : ∀ y, X.fn y = true) (h : nsB N sc (x, i) = true) : Ns X x i := by
  unfold nsB at h
  simp only [Bool.and_eq_true, Bool.or_eq_true, decide_eq_true_eq] at h
  obtain ⟨h1, h2⟩ := h
  refine ⟨by rw [eN]; exact nd, by rw [eN]; exact h1, ?_, .inl (hf x)⟩
  rw [es]
  rcases h2 with h | h
  · exact .inl (nkB_eq h)
  · exact .inr (nkB_eq h)
theorem gn_of (es : X.env.scope = sc) (h : gnB sc x = true) : Gn X x := by
  unfold gnB at h
  simp only [Bool.and_eq_true, Bool.not_eq_true', decide_eq_false_iff_not] at h
  obtain ⟨⟨h1, h2⟩, h3⟩ := h
  refine ⟨?_, h2, h3⟩
  show X.env.kindOf x = some .globalImplicit
  have : X.env.kindOf x = X.env.scope.names.lookup x := rfl
  rw [this, es]
  exact nkB_eq h1
def Nms (X : Cx) : List (Str × Nat) → Prop
  | [] => True
  | p :: r => Nm X p.1 p.2 ∧ Nms X r
def Nss (X : Cx) : List (Str × Nat) → Prop
  | [] => True
  | p :: r => Ns X p.1 p.2 ∧ Nss X r
def Gns (X : Cx) : List Str → Prop
  | [] => True
  | p :: r => Gn X p ∧ Gns X r
theorem nms_of (eN : X.N = N) (es : X.env.scope = sc) : ∀ {l : List (Str × Nat)}, l.all (nmB N sc) = true → Nms X l
  | [], _ => trivial
  | p :: r, h => by
    rw [List.all_cons, Bool.and_eq_true] at h
    exact ⟨nm_of eN es h.1, nms_of eN es h.2⟩
theorem nss_of (eN : X.N = N) (es : X.env.scope = sc) (nd : N.Nodup) (hf : ∀ y, X.fn y = true) : ∀ {l : List (Str × Nat)}, l.all (nsB N sc) = true → Nss X l
  | [], _ => trivial
  | p :: r, h => by
    rw [List.all_cons, Bool.and_eq_true] at h
    exact ⟨ns_of eN es nd hf h.1, nss_of eN es nd hf h.2⟩
theorem gns_of (es : X.env.scope = sc) : ∀ {l : List Str}, l.all (gnB sc) = true → Gns X l
  | [], _ => trivial
  | p :: r, h => by
    rw [List.all_cons, Bool.and_eq_true] at h
    exact ⟨gn_of es h.1, gns_of es h.2⟩
end
def Sl.nn : Sl → Bool
  | .no => false
  | _ => true
theorem Sl.nn_ne {s : Sl} (h : s.nn = true) : s ≠ .no := by
  intro e
  subst e
  cases h
section
variable {X : Cx} {e : Expr} {es : List Expr} {z : Z} {pos p : Pos} {Q : Sl → Z → Prop} {x : Str} {i k kk : Nat} {ps : List Str}
theorem we_nm {s : Sl} (n : Nm X x i) (hs : z.sl[i]? = some s) (hx : s.nn = true) (h : Q s z) : WE X (.Name x pos) z Q := we_var n.n n.v hs (Sl.nn_ne hx) h n.d n.c
theorem w1_ns {P : Out → Prop} {pos' : Pos} (n : Ns X x i) (hs : swapsWith e (some (.Name x pos')) pos.line X.env = pure false) (h : WE X e z fun y z1 => P (.nx ⟨z1.sl.set i y, z1.ob⟩)) : W1 X (.Assign [.Name x pos'] e pos) z P := w1_set n.nd n.n n.l h hs n.f
/-- a built-in as this def sees it -/
structure Bi (X : Cx) (x : Str) (id : String) : Prop where
  g : Gn X x
  m : X.mg x = none
  v : bootBuiltins x = some (.builtin id)
structure Bt (X : Cx) (x : Str) (id : String) : Prop where
  g : Gn X x
  m : X.mg x = none
  v : bootBuiltins x = some (.type id)
theorem we_bi' {id : String} (b : Bi X x id) (h : WA X (e :: es) z fun xs z1 => CD X (.builtin id) xs z1 Q) (he : starEach (e :: es) X.env = (false, eval e X.env) :: starEach es X.env) (hpl : (backTo pos (starEach es X.env)).any (·.1) = false) : WE X (.Call (.Name x p) (e :: es) [] pos) z Q := we_bi b.m b.v h b.g.g b.g.n b.g.d he hpl
theorem we_ty' {id : String} (b : Bt X x id) (h : WA X (e :: es) z fun xs z1 => CD X (.type id) xs z1 Q) (he : starEach (e :: es) X.env = (false, eval e X.env) :: starEach es X.env) (hpl : (backTo pos (starEach es X.env)).any (·.1) = false) : WE X (.Call (.Name x p) (e :: es) [] pos) z Q := we_ty b.m b.v h b.g.g b.g.n b.g.d he hpl
theorem we_isi' {a : Expr} {t : Str} {T : String} {pt : Pos} (b : Bi X "isinstance" "isinstance") (bt : Bt X t T) (h : WE X a z fun y z1 => ∃ r, Isi y z1 T r ∧ Q (.sh (.bool r)) z1)
    (he : starEach [a, .Name t pt] X.env = (false, eval a X.env) :: starEach [.Name t pt] X.env) (he2 : starEach [.Name t pt] X.env = (false, eval (.Name t pt) X.env) :: starEach [] X.env) (hpl : (backTo pos (starEach [.Name t pt] X.env)).any (·.1) = false) :
    WE X (.Call (.Name "isinstance" p) [a, .Name t pt] [] pos) z Q := we_isi (Ps := fun _ => True) b.m bt.m bt.v h b.g.g bt.g.g bt.g.n bt.g.d he he2 hpl
theorem we_isi2' {a : Expr} {t u : Str} {T U : String} {pt pu ptt : Pos} {x1} (b : Bi X "isinstance" "isinstance") (bt : Bt X t T) (bu : Bt X u U) (h : WE X a z fun y z1 => ∃ r r', Isi y z1 T r ∧ Isi y z1 U r' ∧ Q (.sh (.bool (r || r'))) z1)
    (he : starEach [a, .Tuple [.Name t pt, .Name u pu] x1 ptt] X.env = (false, eval a X.env) :: starEach [.Tuple [.Name t pt, .Name u pu] x1 ptt] X.env)
    (he2 : starEach [.Tuple [.Name t pt, .Name u pu] x1 ptt] X.env = (false, eval (.Tuple [.Name t pt, .Name u pu] x1 ptt) X.env) :: starEach [] X.env)
    (he3 : starEach [.Name t pt, .Name u pu] X.env = (false, eval (.Name t pt) X.env) :: starEach [.Name u pu] X.env) (he4 : starEach [.Name u pu] X.env = (false, eval (.Name u pu) X.env) :: starEach [] X.env)
    (hpl : (backTo pos (starEach [.Tuple [.Name t pt, .Name u pu] x1 ptt] X.env)).any (·.1) = false) :
    WE X (.Call (.Name "isinstance" p) [a, .Tuple [.Name t pt, .Name u pu] x1 ptt] [] pos) z Q := we_isi2 b.m bt.m bt.v bu.m bu.v h b.g.g bt.g.g bu.g.g bt.g.n bt.g.d bu.g.n bu.g.d he he2 he3 he4 hpl
/-- a def as this def sees it, and the room -/
structure Cf (X : Cx) (x : Str) (k : Nat) (ps : List Str) (R : Rl) : Prop where
  g : Gn X x
  d : Df X.prog X.w X.K X.mg X.base x k ps R
theorem we_cP {F : List PyData → PyData → Prop} (c : Cf X x k ps (PureR F)) (hr : Room kk X.A) (hle : k ≤ kk) (h : WA X (e :: es) z fun xs z1 => ∃ ds d, allSh xs = some ds ∧ F ds d ∧ xs.length = ps.length ∧ Q (.sh d) z1)
    (he : starEach (e :: es) X.env = (false, eval e X.env) :: starEach es X.env) (hpl : (backTo pos (starEach es X.env)).any (·.1) = false) : WE X (.Call (.Name x p) (e :: es) [] pos) z Q := we_callP c.d hr hle h c.g.g c.g.d he hpl
theorem we_cN {F : List PyData → List PyData → Prop} (c : Cf X x k ps (NewR F)) (hr : Room kk X.A) (hle : k ≤ kk) (h : WA X (e :: es) z fun xs z1 => ∃ ds d, allSh xs = some ds ∧ F ds d ∧ xs.length = ps.length ∧ Q (.ob z1.ob.length) ⟨z1.sl, z1.ob ++ [.lst (d.map .sh)]⟩)
    (he : starEach (e :: es) X.env = (false, eval e X.env) :: starEach es X.env) (hpl : (backTo pos (starEach es X.env)).any (·.1) = false) : WE X (.Call (.Name x p) (e :: es) [] pos) z Q := we_callN c.d hr hle h c.g.g c.g.d he hpl
theorem we_cX {Pre : List PyData → Prop} {cost : List PyData → Nat} {Post : List PyData → PyData → Prop} (c : Cf X x k ps (BoxD Pre cost Post)) (hr : Room kk X.A) (hle : k ≤ kk)
    (h : WA X (e :: es) z fun xs z1 => ∃ i ys ds b, xs = .ob i :: ys ∧ Dl.allSh ys = some ds ∧ z1.ob[i]? = some (Bx.o b) ∧ b.Ok (cost ds) ∧ Pre ds ∧ xs.length = ps.length ∧ ∀ d b', Post ds d → b.Le b' (cost ds) → Q (.sh d) ⟨z1.sl, z1.ob.set i b'.o⟩)
    (he : starEach (e :: es) X.env = (false, eval e X.env) :: starEach es X.env) (hpl : (backTo pos (starEach es X.env)).any (·.1) = false) : WE X (.Call (.Name x p) (e :: es) [] pos) z Q := we_callX c.d hr hle h c.g.g c.g.d he hpl
end
theorem fin_sh {n : Nat} {Qd : Sl → List OO → Prop} {d : PyData} {z : Z} (hr : (z.ob.take n).all (rlO n) = true) (h : Qd (.sh d) (z.ob.take n)) : Fin n Qd (.rt (.sh d) z) := ⟨_, _, .sh d _ hr, h⟩
theorem fin_new {n k : Nat} {Qd : Sl → List OO → Prop} {xs : List Sl} {z : Z} (hk : n ≤ k) (ho : z.ob[k]? = some (.lst xs)) (hr : (z.ob.take n).all (rlO n) = true) (hx : xs.all (rlS n) = true) (h : Qd (.ob n) (z.ob.take n ++ [.lst xs])) : Fin n Qd (.rt (.ob k) z) := ⟨_, _, .new k xs _ hk ho hr hx, h⟩
theorem fin_frz {n k : Nat} {Qd : Sl → List OO → Prop} {xs : List Sl} {ds : List PyData} {z : Z} (hk : n ≤ k) (ho : z.ob[k]? = some (.lst xs)) (hr : (z.ob.take n).all (rlO n) = true) (hx : allSh xs = some ds) (h : Qd (.sh (.list ds)) (z.ob.take n)) : Fin n Qd (.rt (.ob k) z) := ⟨_, _, .frz k xs ds _ hk ho hr hx, h⟩
end Dl

namespace Dl
open PySem PySem.Spec L2
open PyProof.Rows hiding St

/-! ### a def's context as a letter -/
structure Good (X : Cx) (P : Program) (w : World) (K : PySem.W.Frag) (mg : Str → Option Value) (base : Heap) (N : List Str) (sc : Scope) (k : Nat) : Prop where
  prog : X.prog = P
  w : X.w = w
  K : X.K = K
  mg : X.mg = mg
  base : X.base = base
  N : X.N = N
  sc : X.env.scope = sc
  calm : X.calm = true
  po : PassesOwn (model X.prog X.w) X.A X.env X.xe
  room : Room k X.A
  knd : X.env.scope.kind = .function
  fn : ∀ y, X.fn y = true
  nd : X.N.Nodup
def relS (scope sc : Scope) : Scope := { scope with names := scope.names.map fun (n, k) => if (k == NameKind.free && sc.kind == .function && sc.names.lookup n == some .cell) then (n, NameKind.cell) else (n, k) }
theorem relS_eq {scope : Scope} {env : Env} : relabel scope env = relS scope env.scope := rfl
section
variable {P : Program} {w : World} {K : PySem.W.Frag} {mg : Str → Option Value} {base : Heap}
theorem fn_okN {x qual : Str} {st : Stmt} {f : Addr} {fd : FuncData} {N ps : List Str} {k : Nat} {R : Rl} {l l2 : List (Str × Nat)} {gl : List Str} (F : Fun K x qual st f fd) (S : FnScope N ps (defScope st))
    (nm : l.all (nmB N (defScope st)) = true) (ns : l2.all (nsB N (defScope st)) = true) (gn : gl.all (gnB (defScope st)) = true)
    (h : ∀ X : Cx, Good X P w K mg base N (defScope st) k → Nms X l → Nss X l2 → Gns X gl → ∀ xs om Qd, xs.length = ps.length → R xs om Qd →
      WS X (defBody st) ⟨xs ++ List.replicate (N.length - xs.length) .no, om⟩ (Fin om.length Qd)) : FnOk P w K mg base CX0 (k + 1) f fd ps (spD K ps.length R) := by
  refine fn_ok F S (fun cdv A outer s H E hr xs om Qd hl hR => ?_)
  exact h _ ⟨rfl, rfl, rfl, rfl, rfl, rfl, rfl, rfl, PassesOwn.never, hr, S.kind, fun _ => rfl, S.nd⟩ (nms_of rfl rfl nm) (nss_of rfl rfl S.nd (fun _ => rfl) ns) (gns_of rfl gn) xs om Qd hl hR
variable {X : Cx} {N : List Str} {sc : Scope} {k : Nat}
theorem Good.cf (g : Good X P w K mg base N sc k) {x : Str} {j : Nat} {ps : List Str} {R : Rl} (h : Gn X x) (d : Df P w K mg base x j ps R) : Cf X x j ps R := by
  refine ⟨h, ?_⟩
  rw [g.prog, g.w, g.K, g.mg, g.base]
  exact d
theorem Good.bi (g : Good X P w K mg base N sc k) {x : Str} {id : String} (h : Gn X x) (hm : mg x = none) (hv : bootBuiltins x = some (.builtin id)) : Bi X x id := ⟨h, by rw [g.mg]; exact hm, hv⟩
theorem Good.bt (g : Good X P w K mg base N sc k) {x : Str} {id : String} (h : Gn X x) (hm : mg x = none) (hv : bootBuiltins x = some (.type id)) : Bt X x id := ⟨h, by rw [g.mg]; exact hm, hv⟩
theorem Good.blk (g : Good X P w K mg base N sc k) {scope : Scope} {own : List (Str × Nat)} (h : blkC N sc scope own = true) : BlkOk X.N X.env.scope scope own := by
  rw [g.N, g.sc]
  exact blkOk_by h
/-- within a comprehension -/
theorem Good.bnm (g : Good X P w K mg base N sc k) {scope : Scope} {s : Shared} {H : Hp} {C : Addr} {cl : List (Str × Addr)} {fp : List Addr} {l : List (Str × Nat)} (h : l.all (nmB N (relS scope sc)) = true) : Nms (Blk X scope s H C cl fp) l := nms_of (X := Blk X scope s H C cl fp) (sc := relS scope sc) g.N (by rw [← g.sc]; rfl) h
theorem Good.bgn (g : Good X P w K mg base N sc k) {scope : Scope} {s : Shared} {H : Hp} {C : Addr} {cl : List (Str × Addr)} {fp : List Addr} {l : List Str} (h : l.all (gnB (relS scope sc)) = true) : Gns (Blk X scope s H C cl fp) l := gns_of (X := Blk X scope s H C cl fp) (sc := relS scope sc) (by rw [← g.sc]; rfl) h
theorem Good.bcf (g : Good X P w K mg base N sc k) {scope : Scope} {s : Shared} {H : Hp} {C : Addr} {cl : List (Str × Addr)} {fp : List Addr} {x : Str} {j : Nat} {ps : List Str} {R : Rl} (h : Gn (Blk X scope s H C cl fp) x) (d : Df P w K mg base x j ps R) : Cf (Blk X scope s H C cl fp) x j ps R := by
  refine ⟨h, ?_⟩
  show Df X.prog X.w X.K X.mg X.base x j ps R
  rw [g.prog, g.w, g.K, g.mg, g.base]
  exact d
theorem Good.bbi (g : Good X P w K mg base N sc k) {scope : Scope} {s : Shared} {H : Hp} {C : Addr} {cl : List (Str × Addr)} {fp : List Addr} {x : Str} {id : String} (h : Gn (Blk X scope s H C cl fp) x) (hm : mg x = none) (hv : bootBuiltins x = some (.builtin id)) : Bi (Blk X scope s H C cl fp) x id := ⟨h, by
  show X.mg x = none
  rw [g.mg]
  exact hm, hv⟩
theorem Good.bbt (g : Good X P w K mg base N sc k) {scope : Scope} {s : Shared} {H : Hp} {C : Addr} {cl : List (Str × Addr)} {fp : List Addr} {x : Str} {id : String} (h : Gn (Blk X scope s H C cl fp) x) (hm : mg x = none) (hv : bootBuiltins x = some (.type id)) : Bt (Blk X scope s H C cl fp) x id := ⟨h, by
  show X.mg x = none
  rw [g.mg]
  exact hm, hv⟩
/-- the target of a for, of a comprehension: a name -/
theorem pgN {x : Str} {i : Nat} {pos : Pos} (n : Ns X x i) : PG X (.Name x pos) (gName i) := pg_name n.nd n.n n.l n.f
theorem Good.bpg (g : Good X P w K mg base N sc k) {scope : Scope} {s : Shared} {H : Hp} {C : Addr} {cl : List (Str × Addr)} {fp : List Addr} {x : Str} {i : Nat} {pos : Pos} (h : (decide (N[i]? = some x) && nkB ((relS scope sc).names.lookup x) .local) = true) : PG (Blk X scope s H C cl fp) (.Name x pos) (gName i) := by
  rw [Bool.and_eq_true, decide_eq_true_eq] at h
  have e := nkB_eq h.2
  rw [← g.sc] at e
  exact pg_name (X := Blk X scope s H C cl fp) (show X.N.Nodup from g.nd) (show X.N[i]? = some x by rw [g.N]; exact h.1) (.inl e) (.inr e)
end
/-- a, b = x, y: the stores' order -/
theorem swap2 {X : Cx} {x y : Str} {a b : Expr} {px py pt : Pos} {kt k2 pt2} (hk : X.env.scope.kind = .function) (hx : X.env.scope.names.lookup x = some .local) (hy : X.env.scope.names.lookup y = some .local) (hxy : (x == y) = false)
    (hl : (px.line == px.line) = true := by rfl) (hl2 : (py.line == px.line) = true := by rfl) (hs : ([a, b].any fun | .Starred .. => true | _ => false) = false := by rfl) (h1 : [a, b].all (foldedForSure 8) = false := by rfl) (h2 : [a, b].all (constantsAlone 8) = false := by rfl) :
    swappedStores [.Tuple [.Name x px, .Name y py] kt pt] (.Tuple [a, b] k2 pt2) X.env = pure (some [x, y]) := by
  have kx : X.env.kindOf x = some .local := hx
  have ky : X.env.kindOf y = some .local := hy
  have hb : X.env.blockKind = .function := by unfold Env.blockKind; rw [hk]; rfl
  have hyx : (y == x) = false := by
    rw [← hxy]
    exact Bool.beq_comm (a := y) (b := x) ▸ rfl
  unfold swappedStores
  simp only [hb, kx, ky, hl, hl2, h1, h2, hs, List.head?, Option.map, Option.getD, Expr.pos, List.filterMap, List.length]
  simp [hxy, hyx, List.eraseDups, List.eraseDupsBy, List.eraseDupsBy.loop, kx, ky, hl, hl2]
  intro h
  rw [List.any_cons, List.any_cons, Bool.or_eq_false_iff, Bool.or_eq_false_iff] at hs
  rcases h with h | h
  · exact absurd (h.symm.trans hs.1) (by simp)
  · exact absurd (h.symm.trans hs.2.1) (by simp)
end Dl

namespace Dl
open PySem PySem.Spec L2
open PyProof.Rows hiding St

/-! ### slices with a step -/
section
variable {prog : Program} {w : World} {A : Around} {E : Value → Shared → Prop} {s : Shared}
theorem sliceApplied_c {sl : Addr} {vl vu vc : Value} {lo hi : Option Int} {c : Int} {n : Nat} {Q : Int × Int × Nat → Shared → Prop} (hs : s.heap.IsSliceOf sl vl vu vc) (pl : IsPart vl lo) (pu : IsPart vu hi) (pc : IsPart vc (some c)) (hc : (c == 0) = false)
    (h : Q ((Builtin.Slice.sliceAdjust lo hi c n).1, c, Builtin.Slice.slicePlaces (Builtin.Slice.sliceAdjust lo hi c n).1 (Builtin.Slice.sliceAdjust lo hi c n).2 c) s) : wpAny (model prog w) A (Builtin.Slice.sliceApplied (.ref sl) (pure (n : Int))) Q E s := by
  obtain ⟨os, hos, hcs, hds⟩ := id hs
  unfold Builtin.Slice.sliceApplied Builtin.Slice.sliceFields
  refine wpAny_bind (wpAny_bind (wpAny_field hos hds (x := vl) rfl (wpAny_bind (wpAny_field hos hds (x := vu) rfl (wpAny_bind (wpAny_field hos hds (x := vc) rfl (wpAny_pure ?_)))))))
  refine wpAny_bind (HT.slicePart_ pc ?_)
  show wpAny _ _ (if (c == 0) = true then _ else _) _ _ s
  rw [if_neg (by rw [hc]; exact Bool.false_ne_true)]
  exact wpAny_bind (HT.slicePart_ pl (wpAny_bind (HT.slicePart_ pu (wpAny_bind (wpAny_pure (wpAny_pure h))))))
def pickC {α : Type} (xs : List α) (a c : Int) (n : Nat) : List α := (List.range n).filterMap fun (k : Nat) => xs[(a + (k : Int) * c).toNat]?
theorem getItem_tuple_c {t sl : Addr} {items : Array Value} {vl vu vc : Value} {lo hi : Option Int} {c : Int} {Q : Value → Shared → Prop} (ht : IsTup s.heap t items) (hs : s.heap.IsSliceOf sl vl vu vc) (pl : IsPart vl lo) (pu : IsPart vu hi) (pc : IsPart vc (some c)) (hc : (c == 0) = false) (hc1 : (c == 1) = false)
    {a : Int} {n : Nat} (ea : Builtin.Slice.sliceAdjust lo hi c items.size = (a, (Builtin.Slice.sliceAdjust lo hi c items.size).2)) (en : Builtin.Slice.slicePlaces (Builtin.Slice.sliceAdjust lo hi c items.size).1 (Builtin.Slice.sliceAdjust lo hi c items.size).2 c = n) (hn : n ≤ sizeLine)
    (h : Q (.ref s.heap.objs.size) { s with heap := s.heap.push { cls := .type "tuple", data := .seq (pickC items.toList a c n).toArray } }) : wpAny (model prog w) A (getItem (.ref t) (.ref sl)) Q E s := by
  have hlen : ∀ (m : Nat), (pickC items.toList a c m).length ≤ m := fun m => by
    unfold pickC
    exact Nat.le_trans (List.length_filterMap_le _ _) (by simp)
  have htake : sizeOk (.seq (pickC items.toList a c n).toArray) := by
    show (pickC items.toList a c n).toArray.size ≤ sizeLine
    rw [List.size_toArray]
    exact Nat.le_trans (hlen n) hn
  obtain ⟨os, hos, hcs, hds⟩ := id hs
  have hTs : s.TypeIs (.ref sl) "slice" := ⟨os, hos, hcs⟩
  have ea1 : (Builtin.Slice.sliceAdjust lo hi c items.size).1 = a := by rw [ea]
  unfold getItem
  try with_reducible refine wpAny_holding ?_
  first | refine wpAny_bind (wpAny_pure ?_) | skip
  refine wpAny_bind (wpAny_sequenceKey ht.typeIs (by decide) ?_)
  refine wpAny_bind (wpAny_callSpecial?_slot (name := Str.ofString "__getitem__") ht.typeIs PyProof.Rows.slot_tuple_getitem
    (wpAny_call_entry PyProof.Rows.slot_tuple_getitem ht.typeIs entry_tuple_getitem ?_ (args_tuple_getitem _ _)))
  show wpAny _ _ (Builtin.Tuple.tupleItemsOf (.ref t) >>= _) _ _ s
  refine wpAny_bind (tupleItemsOf_ ht ?_)
  refine wpAny_bind (wpAny_typeOf hTs ?_)
  rw [if_pos (by decide)]
  refine wpAny_bind (sliceApplied_c hs pl pu pc hc ?_)
  rw [en, ea1]
  show wpAny _ _ (if ((a == 0) && (c == 1) && (n == items.size)) = true then _ else _) _ _ s
  rw [hc1, Bool.and_false, Bool.false_and, if_neg Bool.false_ne_true]
  have e : ((List.range n).filterMap fun (k : Nat) => items[(a + (k : Int) * c).toNat]?).toArray = (pickC items.toList a c n).toArray := by
    unfold pickC
    congr 2
    funext k
    rw [Array.getElem?_toList]
  rw [e]
  first
    | exact wpAny_bind (m := Builtin.Tuple.tupleExact _) (wpAny_newObj_type (wpAny_pure ⟨_, rfl, wpAny_pure h⟩) htake)
    | exact wpAny_bind (m := Builtin.Tuple.tupleExact _) (wpAny_newObj_type (wpAny_bind (wpAny_pure (wpAny_pure ⟨_, rfl, wpAny_pure h⟩))) htake)
    | exact wpAny_bind (wpAny_bind (m := Builtin.Tuple.tupleExact _) (wpAny_newObj_type (wpAny_pure (wpAny_pure ⟨_, rfl, wpAny_pure h⟩)) htake))
    | exact wpAny_bind (wpAny_bind (m := Builtin.Tuple.tupleExact _) (wpAny_newObj_type (wpAny_pure ⟨_, rfl, wpAny_pure h⟩) htake))
end
/-- a slice with a step, by values -/
def s3B (X : Cx) : V → Option Int → Option Int → Int → Hp → VK → Prop := fun x lo hi st H Q => ∀ (pins : List (Addr × Obj)) (s : Shared) (σ : St) (v vl vu vc : Value) (sl : Addr), Inv X pins σ H s → RelV x v → s.heap.IsSliceOf sl vl vu vc → IsPart vl lo → IsPart vu hi → IsPart vc (some st) →
    ∃ T id, typeLookup (.type T) "__getitem__" = pure (some (.builtin id)) ∧ s.TypeIs v T ∧ wpAny (model X.prog X.w) X.A (getItem v (.ref sl)) (EP X pins σ Q) X.xe s
def S3 (X : Cx) (x : Sl) (lo hi : Option Int) (st : Int) (z : Z) (Q : Sl → Z → Prop) : Prop := ∀ c w σ v k, B X.K c w σ z → Vl X.K w v x → Cont X.K c w σ Q k → s3B X v lo hi st w.H k
section
variable {X : Cx} {a b : Expr} {z : Z} {pos : Pos} {Q : Sl → Z → Prop}
theorem pe_sl3 {e st : Expr} {lo hi : Option Expr} {p2 : Pos} {te ts : TE} {tl th : TO} (he : PE X e te) (hl : PO X lo tl) (hu : PO X hi th) (hst : PE X st ts) :
    PE X (.Subscript e (.Slice lo hi (some st) p2) pos) (fun σ H Q => te σ H fun x H1 => tl σ H1 fun l H2 => th σ H2 fun u H3 => ts σ H3 fun y H4 => ∃ c, y = .int c ∧ s3B X x l u c H4 Q) := by
  refine ⟨fun pins s σ H Q I h => ?_⟩
  refine Subscript_ (thn (he.run pins s σ H _ I h) fun v s1 ⟨x, H1, I1, r1, q1⟩ => ?_)
  refine wpAny_Slice (thn (hl.run pins s1 σ H1 _ I1 q1) fun vl s2 ⟨l, H2, I2, pl, q2⟩ => thn (hu.run pins s2 σ H2 _ I2 q2) fun vu s3 ⟨u, H3, I3, pu, q3⟩ => ?_)
  rw [evalPart_some]
  refine thn (hst.run pins s3 σ H3 _ I3 q3) fun vc s4 ⟨y, H4, I4, r4, c, e1, q4⟩ => ?_
  · subst e1
    obtain ⟨tk, rfl⟩ := r4
    have pc : IsPart (.int c tk) (some c) := .int c tk
    have I5 : Inv X pins σ H4 { s4 with heap := s4.heap.push { cls := .type "slice", data := .fields #[vl, vu, .int c tk] } } := I4.kept (t' := s4.toks) fun b ob q => Heap.get?_push_of_some _ q
    obtain ⟨T, id, hT, ht, hg⟩ := q4 pins { s4 with heap := s4.heap.push { cls := .type "slice", data := .fields #[vl, vu, .int c tk] } } σ v vl vu (.int c tk) s4.heap.objs.size I5 r1 (Heap.IsSliceOf.new ..) pl pu pc
    show wpAny (model X.prog X.w) X.A (subscriptTail e (.Slice lo hi (some st) p2) v (.ref s4.heap.objs.size)) (EP X pins σ Q) X.xe { s4 with heap := s4.heap.push { cls := .type "slice", data := .fields #[vl, vu, .int c tk] } }
    exact tail_any (ops := [v, .ref s4.heap.objs.size]) ht hT hg (by with_unfolding_all rfl)
theorem we_sl3 {e st : Expr} {lo hi : Option Expr} {p2 : Pos} (h : WE X e z fun x z1 => WO X lo z1 fun l z2 => WO X hi z2 fun u z3 => WE X st z3 fun y z4 => ∃ c, y = .sh (.int c) ∧ S3 X x l u c z4 Q) : WE X (.Subscript e (.Slice lo hi (some st) p2) pos) z Q := fun c w σ k bb hk =>
  tE_of (pe_sl3 peB poB poB peB) (h c w σ _ bb fun v x w1 z1 b1 l1 q1 h1 => wo_ok h1 c w1 σ _ b1 fun i w2 z2 b2 l2 h2 => wo_ok h2 c w2 σ _ b2 fun j w3 z3 b3 l3 h3 => h3 c w3 σ _ b3 fun u y w4 z4 b4 l4 q4 ⟨cc, e1, h4⟩ => by
    subst e1
    exact ⟨cc, Dp_int q4, h4 c w4 σ v k b4 (q1.mono ((l2.trans l3).trans l4)) (hk.le (((l1.trans l2).trans l3).trans l4))⟩)
/-- t[:0:-1], t a tuple that isn't empty -/
theorem pick_back {α : Type} (x : α) (xs : List α) : pickC (x :: xs) ((xs.length + 1 : Nat) - 1 : Int) (-1) xs.length = xs.reverse := by
  unfold pickC
  have key : ∀ (n : Nat), n ≤ xs.length → (List.range n).filterMap (fun (k : Nat) => (x :: xs)[(((xs.length + 1 : Nat) - 1 : Int) + (k : Int) * -1).toNat]?) = xs.reverse.take n := fun n => by
    induction n with
    | zero => intro _; rfl
    | succ n ih =>
      intro hn
      rw [List.range_succ, List.filterMap_append, ih (by omega), List.take_add_one]
      congr 1
      have e : (((xs.length + 1 : Nat) - 1 : Int) + (n : Int) * -1).toNat = xs.length - n := by omega
      have e2 : xs.length - n = (xs.length - 1 - n) + 1 := by omega
      rw [List.filterMap_cons, List.filterMap_nil, e, e2, List.getElem?_cons_succ]
      rw [List.getElem?_reverse (by omega)]
      have hl : xs.length - 1 - n < xs.length := by omega
      rw [List.getElem?_eq_getElem hl]
      rfl
  rw [key xs.length (Nat.le_refl _), List.take_of_length_le (by simp)]
theorem paired_pick {α β : Type} {F : α → β → Prop} {xs : List α} {ys : List β} (h : Paired F xs ys) (a c : Int) (n : Nat) : Paired F (pickC xs a c n) (pickC ys a c n) := by
  unfold pickC
  induction n with
  | zero => exact .nil
  | succ n ih =>
    rw [List.range_succ, List.filterMap_append, List.filterMap_append]
    refine paired_app ih ?_
    rw [List.filterMap_cons, List.filterMap_nil, List.filterMap_cons, List.filterMap_nil]
    cases e : ys[(a + (n : Int) * c).toNat]? with
    | none =>
      have : xs[(a + (n : Int) * c).toNat]? = none := by
        rw [List.getElem?_eq_none_iff] at e ⊢
        rw [h.length]
        exact e
      rw [this]
      exact .nil
    | some y =>
      obtain ⟨x, e1, q⟩ := paired_get h e
      rw [e1]
      exact .cons q .nil
theorem s3_back {d : PyData} {ds : List PyData} (hl : ds.length < 100000) (h : Q (.sh (.tuple ds.reverse)) z) : S3 X (.sh (.tuple (d :: ds))) none (some 0) (-1) z Q := fun c w σ v k b r1 hk => by
  obtain ⟨p, xs, rfl, h1, s1⟩ := Dp_tupI r1
  intro pins s σ2 v vl vu vc sl I rx hs pl pu pc
  cases rx
  obtain ⟨its, r, ht, hz⟩ := I.tuple (Same.tup b.same h1)
  have hxl : xs.length = ds.length + 1 := by rw [DpAll_len s1]; rfl
  have hil : its.toArray.size = ds.length + 1 := by rw [List.size_toArray, ← r.length]; exact hxl
  refine ⟨"tuple", _, PyProof.Rows.slot_tuple_getitem.lookup, ht.typeIs, ?_⟩
  have ea : Builtin.Slice.sliceAdjust none (some 0) (-1) (its.toArray.size : Int) = ((its.toArray.size : Int) - 1, 0) := by
    unfold Builtin.Slice.sliceAdjust
    rw [hil]
    have h3 : min (0 : Int) (((ds.length + 1 : Nat) : Int) - 1) = 0 := by omega
    simp only [show (-1 : Int) < 0 by decide, if_true, show ¬ (0 : Int) < 0 by decide, if_false, h3]
  have en : Builtin.Slice.slicePlaces ((its.toArray.size : Int) - 1) 0 (-1) = ds.length := by
    unfold Builtin.Slice.slicePlaces
    rw [hil]
    by_cases h0 : ds.length = 0
    · rw [h0]
      decide
    · simp only [show ¬ (-1 : Int) > 0 by decide, if_false, show ((ds.length + 1 : Nat) : Int) - 1 > 0 by omega, if_true, show (- -1 : Int) = 1 by decide, Int.ediv_one]
      omega
  refine getItem_tuple_c (a := (its.toArray.size : Int) - 1) (n := ds.length) ht hs pl pu pc (by decide) (by decide) (by rw [ea]) (by rw [ea]; exact en) (Nat.le_of_lt (Nat.lt_of_lt_of_le hl (by decide))) ?_
  have hpk : Paired (Dq X.K w.S) (pickC xs ((ds.length + 1 : Nat) - 1 : Int) (-1) ds.length) ds.reverse := by
    have := paired_pick (DqAll_paired s1) ((ds.length + 1 : Nat) - 1 : Int) (-1) ds.length
    rw [pick_back d ds] at this
    exact this
  have hvp : Vals (pickC xs ((ds.length + 1 : Nat) - 1 : Int) (-1) ds.length) (pickC its.toArray.toList ((its.toArray.size : Int) - 1) (-1) ds.length) := by
    rw [hil]
    exact paired_pick (F := RelV) r _ _ _
  have hfin := new_tup (Q := Q) b (paired_DqAll hpk) hk h _ (I.hok.fresh (Nat.le_refl _))
  refine ⟨.ref s.heap.objs.size, _, I.laid (t' := s.toks) (o := .tup (pickC xs ((ds.length + 1 : Nat) - 1 : Int) (-1) ds.length)) (fun b ob q => Heap.get?_push_of_some _ q) (Nat.le_refl _) ?_, rfl, hfin⟩
  refine ⟨?_, _, hvp, IsTup.new _ _⟩
  rw [hpk.length, List.length_reverse]
  exact Nat.le_of_lt (Nat.lt_of_lt_of_le hl (by decide))
/-- xs[::-1] of a list -/
theorem s3_rev {ds : List PyData} (h : Q (.sh (.list ds.reverse)) z) : S3 X (.sh (.list ds)) none none (-1) z Q := fun c w σ v k b r1 hk => by
  obtain ⟨p, xs, rfl, h1, s1⟩ := Dp_lstI r1
  intro pins s σ2 v vl vu vc sl I rx hs pl pu pc
  cases rx
  obtain ⟨its, r, ht, hz⟩ := I.list (.inl (Same.rd b.same h1))
  refine ⟨"list", _, PySem.list_getitem_lookup, ht.isList.typeIs, ?_⟩
  refine wpAny_getItem_list_slice ht.isList hs pl pu pc (by decide) ?_ (by rw [List.size_toArray, ← r.length]; exact hz)
  rw [PySem.W.krv_pick]
  have hfin := new_lstF (Q := Q) b (paired_DqAll (paired_rev (DqAll_paired s1))) hk h _ (I.hok.fresh (Nat.le_refl _))
  exact ⟨.ref s.heap.objs.size, _, I.lnew (t' := s.toks) (paired_rev (F := RelV) r) (by rw [List.length_reverse]; exact hz), rfl, hfin⟩
end
/-! ### list.extend of a tuple -/
section
variable {X : Cx} {z : Z} {Q : Sl → Z → Prop}
open AutoSeq1 in
theorem list_extend_tup (l : Addr) (items : Array Value) (n : Nat) (b : Addr) (items2 : Array Value) (n2 : Nat) (dd : Option Addr) (sl : Array (Option Value)) (hs0 : ¬(!items.isEmpty && Builtin.List.listTooLong (items.size + items2.size)) = true) (hs1 : items.size ≤ sizeLine) (hs2 : items.size + items2.size ≤ sizeLine + 1) :
    Meets (Builtin.«list.extend» ⟨[.ref l, .ref b], []⟩) (fun _ R s => s.heap.get? l = some { cls := .type "list", dict := none, data := .seq items n, slots := #[] } ∧ s.heap.get? b = some { cls := .type "tuple", dict := dd, data := .seq items2 n2, slots := sl } ∧ R (.ok (.ret Value.none)) { s with heap := s.heap.update l (Obj.mapSeq fun x => x ++ items2), toks := s.toks }) :=
  .of_wp fun prog w A R s h => by
    obtain ⟨hp, g, d, tk, os⟩ := s; obtain ⟨hl, hb, h⟩ := h; have f1 := idx_int; have f2 := AutoSeq1.sub_tuple_tuple; have f3 := AutoSeq1.sub_list_list; have f4 := AutoSeq1.sub_tuple_list; have f5 := AutoSeq1.sub_list_tuple;
    have hz' : (items ++ items2).size ≤ sizeLine + 1 := by rw [Array.size_append]; exact hs2
    wp_walk using (wpAny_updateSeq hl rfl (hz := hs1) (_hz' := hz')), wpAny_loadPart' hl, wpAny_loadPart' hb; exact ⟨_, rfl, h⟩
theorem rExtT : MtM X "list.extend" (fun x vs H Q => ∃ l b xs zs, x = .ref l ∧ vs = [.ref b] ∧ H l = some (.lst xs) ∧ SqT X.K H b zs ∧ xs.length + zs.length ≤ sizeLine ∧ Q .non (upd H l (.lst (xs ++ zs)))) := by
  intro pins s σ H x vs v us Q I rx rv h
  obtain ⟨l, b, xs, zs, rfl, rfl, hH, hB, hz, q⟩ := h
  cases rx
  obtain ⟨u, rfl, ru⟩ := rv.one
  cases ru
  obtain ⟨z, its, n, r, hl, e⟩ := I.lstM hH
  obtain ⟨its2, r2, ⟨⟨oc, dd, od, sl⟩, e2, hc, n2, hd⟩, z2⟩ := I.tuple hB
  simp only at hc hd
  subst hc hd
  have hl2 := r2.length
  have hsz : its.toArray.size + its2.toArray.size ≤ sizeLine := by rw [List.size_toArray, List.size_toArray]; omega
  have hlong : ¬ (!its.toArray.isEmpty && Builtin.List.listTooLong (its.toArray.size + its2.toArray.size)) = true := by
    rw [notLongL hsz, Bool.and_false]
    exact Bool.false_ne_true
  refine call_meets F.slot_list_extend ⟨_, e, rfl⟩ F.entry_list_extend (F.args_list_extend_2 _ _)
    (list_extend_tup l its.toArray n b its2.toArray n2 dd sl hlong (by rw [List.size_toArray]; omega) (by omega)) ⟨e, e2, ?_⟩
  refine ⟨.non, _, I.lset (its' := its ++ its2) hH e (by simp) (r.append r2) ?_, rfl, q⟩
  rw [List.length_append]
  omega
theorem mo_extendT {i : Nat} {xs : List Sl} {ds : List PyData} (ho : z.ob[i]? = some (.lst xs)) (hl : xs.length + ds.length ≤ 100000) (h : Q (.sh .none) ⟨z.sl, z.ob.set i (.lst (xs ++ ds.map .sh))⟩) : MO X "list.extend" i [.sh (.tuple ds)] z Q := fun c w σ p vs k b hp rr hk => by
  obtain ⟨v, rfl, r⟩ := p1 rr
  obtain ⟨_, us, hH, hv⟩ := b.ob i _ p ho hp
  obtain ⟨q, zs, rfl, h1, s1⟩ := Dp_tupI r
  refine mB_of rExtT ⟨p, q, us, zs, rfl, rfl, hH, Same.tup b.same h1, ?_, hk _ _ _ _ (b.setO ho hp (paired_app hv (dp_allSh s1))) le_set vN h⟩
  rw [hv.length, DpAll_len s1]
  exact Nat.le_trans hl (by decide)
/-! ### list * int, in of ints -/
theorem op_repR : OpR X (binaryOp .Mult) (fun x y H Q => ∃ l k xs, x = .ref l ∧ y = .int k ∧ Rd H l (.lst xs) ∧ -(2 ^ 63) ≤ k ∧ k < 2 ^ 63 ∧ xs.length * k.toNat ≤ sizeLine ∧
  ∀ p, H p = none → Q (.ref p) (upd H p (.lst (List.replicate k.toNat xs).flatten))) := by
  intro pins s σ H x y v u Q I rx ry h
  obtain ⟨l, k, xs, rfl, rfl, hH, h1, h2, hz, q⟩ := h
  cases rx
  obtain ⟨t, rfl⟩ := ry
  obtain ⟨z, its, n, r, e⟩ := hH.ok I.hok
  have hl := r.length
  have big : its.toArray.size * k.toNat ≤ sizeLine := by
    rw [List.size_toArray, ← hl]
    exact hz
  have cap : ¬ its.toArray.size * k.toNat > (2 ^ 63 - 1) / 8 := fun h => absurd (Nat.lt_of_lt_of_le h big) (by decide)
  have new : List.foldl (fun x1 x2 => x1 ++ x2) #[] (List.replicate (if its.toArray.isEmpty = true then 0 else k.toNat) its.toArray) = (List.replicate k.toNat its).flatten.toArray := by
    have f0 := fun m : Nat => foldl_rep its m []
    simp only [List.nil_append] at f0
    refine (f0 _).trans ?_
    cases its with
    | nil => simp
    | cons a r' => simp
  refine wpAny_binaryOp_repeat_ref (T := "list") (U := "int") (by decide) ⟨_, e, rfl⟩ (fun s' => typeIs_int s' k t) noFill_list_mul F.fills_int_mul F.slot_int_rmul repeat_list F.slot_int_index.lookup
    (call_meets F.slot_int_rmul (typeIs_int s k t) F.entry_int_rmul (F.args_int_rmul_2 _ _) (int___rmul___int_list k t l its.toArray n) ⟨e, rfl, ⟨_, e, rfl⟩,
      call_meets F.slot_list_mul ⟨_, e, rfl⟩ F.entry_list_mul (F.args_list_mul_2 _ _) (AutoListH.list___mul___list_int_3 l its.toArray n k t (by rw [fitsIndex_both h1 h2]; exact Bool.false_ne_true) cap (by rw [notLongL big]; exact Bool.false_ne_true)) ⟨e, ?_⟩⟩)
  rw [new]
  exact ⟨.ref _, _, I.lnew (t' := s.toks) (r.rep k.toNat) (by rw [PyProof.Rows.lm_len_rep_flat, Nat.mul_comm]; exact hz), rfl, q _ I.fresh⟩
theorem DqAll_rep {K : PySem.W.Frag} {H : Hp} {vs : List V} {ds : List PyData} (h : DqAll K H vs ds) : ∀ n : Nat, DqAll K H (List.replicate n vs).flatten (List.replicate n ds).flatten
  | 0 => .nil
  | n + 1 => by
    rw [List.replicate_succ, List.replicate_succ, List.flatten_cons, List.flatten_cons]
    exact DqAll_app h (DqAll_rep h n)
theorem rd_repF {ds : List PyData} {k : Int} (h1 : k < 1000) (h0 : -1000 < k) (hc : ds.length ≤ 10000) (h : Q (.sh (.list (List.replicate k.toNat ds).flatten)) z) : RD X (binaryOp .Mult) (.sh (.list ds)) (.sh (.int k)) z Q := fun c w σ v u kk b r1 r2 hk => by
  obtain ⟨p, xs, rfl, h3, s1⟩ := Dp_lstI r1
  cases Dp_int r2
  refine rB_of op_repR ⟨p, k, xs, rfl, rfl, Same.rd b.same h3, by omega, by omega, ?_, new_lstF b (DqAll_rep s1 _) hk h⟩
  rw [DpAll_len s1]
  have h5 : k.toNat ≤ 1000 := by omega
  exact Nat.le_trans (Nat.mul_le_mul hc h5) (by decide)
/-- n in a list of ints -/
theorem inV_ints (n : Int) : ∀ ns : List Int, inV (.int n) (ns.map V.int) = ns.contains n
  | [] => rfl
  | m :: ns => by
    show (eqV (.int m) (.int n) || inV (.int n) (ns.map V.int)) = _
    rw [inV_ints n ns, List.contains_cons]
    congr 1
    show (m == n) = (n == m)
    exact Bool.beq_comm
theorem flat_ints (ns : List Int) : (ns.map V.int).all flatV = true := by
  rw [List.all_eq_true]
  intro v hv
  obtain ⟨n, _, rfl⟩ := List.mem_map.mp hv
  rfl
theorem rd_inI {n : Int} {ns : List Int} (h : Q (.sh (.bool (ns.contains n))) z) : RD X (compareOp .In) (.sh (.int n)) (.sh (.list (ns.map .int))) z Q := fun c w σ v u kk b r1 r2 hk => by
  cases Dp_int r1
  obtain ⟨p, xs, rfl, h3, s1⟩ := Dp_lstI r2
  have e := ints_v s1
  subst e
  refine rB_of op_in_seq ⟨p, _, rfl, .inl (.inl (Same.rd b.same h3)), rfl, flat_ints ns, ?_⟩
  rw [if_neg Bool.false_ne_true, inV_ints]
  exact hk _ _ w z b (.refl w) (vB _) h
theorem rd_notInI {n : Int} {ns : List Int} (h : Q (.sh (.bool (!ns.contains n))) z) : RD X (compareOp .NotIn) (.sh (.int n)) (.sh (.list (ns.map .int))) z Q := fun c w σ v u kk b r1 r2 hk => by
  cases Dp_int r1
  obtain ⟨p, xs, rfl, h3, s1⟩ := Dp_lstI r2
  have e := ints_v s1
  subst e
  refine rB_of op_notIn_seq ⟨p, _, rfl, .inl (.inl (Same.rd b.same h3)), rfl, flat_ints ns, ?_⟩
  rw [if_pos rfl, inV_ints]
  exact hk _ _ w z b (.refl w) (vB _) h
end
/-! ### ways that meet again -/
section
variable {X : Cx} {st : Stmt} {rest : List Stmt} {z : Z} {Q : Out → Prop}
def JoinQ (J : Z → Prop) (Q : Out → Prop) : Out → Prop
  | .nx z => J z
  | o => Q o
theorem join_nx {J : Z → Prop} (h : J z) : JoinQ J Q (.nx z) := h
theorem join_rt {J : Z → Prop} {x : Sl} (h : Q (.rt x z)) : JoinQ J Q (.rt x z) := h
theorem join_bk {J : Z → Prop} (h : Q (.bk z)) : JoinQ J Q (.bk z) := h
theorem join_ct {J : Z → Prop} (h : Q (.ct z)) : JoinQ J Q (.ct z) := h
theorem ws_join (J : Z → Prop) (h : W1 X st z (JoinQ J Q)) (hJ : ∀ z, J z → WS X rest z Q) : WS X (st :: rest) z Q := ws_cons fun c w σ D bb hk => h c w σ D bb
  ⟨fun w' σ' z' b l q => hk.nx w' σ' z' b l (hJ z' q), fun v x w' σ' z' b l r q => hk.rt v x w' σ' z' b l r q, fun w' σ' z' b l q => hk.bk w' σ' z' b l q, fun w' σ' z' b l q => hk.ct w' σ' z' b l q⟩
theorem loop_nx {N : Z → Prop} (h : N z) : LoopQ N Q (.nx z) := h
theorem loop_ct {N : Z → Prop} (h : N z) : LoopQ N Q (.ct z) := h
theorem loop_bk {N : Z → Prop} (h : Q (.nx z)) : LoopQ N Q (.bk z) := h
theorem loop_rt {N : Z → Prop} {x : Sl} (h : Q (.rt x z)) : LoopQ N Q (.rt x z) := h
end
theorem Bx.Ok.mk0 {a s : Int} (h0 : 0 ≤ a) (h1 : 0 ≤ s) (h2 : s < 1099511627776) : (⟨a, s, 0⟩ : Bx).Ok 1000000000 := ⟨h0, h1, h2, Int.le_refl 0, by show (0 : Int) + 1000000000 ≤ _; decide⟩
end Dl

namespace Dl
open PySem PySem.Spec L2
open PyProof.Rows hiding St
/-! ### isinstance by kinds -/
theorem isi_non_int {z : Z} : Isi (.sh PyData.none) z "int" false := show kitB "NoneType" "int" = some false by decide +kernel
theorem isi_non_bool {z : Z} : Isi (.sh PyData.none) z "bool" false := show kitB "NoneType" "bool" = some false by decide +kernel
theorem isi_non_str {z : Z} : Isi (.sh PyData.none) z "str" false := show kitB "NoneType" "str" = some false by decide +kernel
theorem isi_non_list {z : Z} : Isi (.sh PyData.none) z "list" false := show kitB "NoneType" "list" = some false by decide +kernel
theorem isi_non_tuple {z : Z} : Isi (.sh PyData.none) z "tuple" false := show kitB "NoneType" "tuple" = some false by decide +kernel
theorem isi_bool_int {b : Bool} {z : Z} : Isi (.sh (.bool b)) z "int" true := show kitB "bool" "int" = some true by decide +kernel
theorem isi_bool_bool {b : Bool} {z : Z} : Isi (.sh (.bool b)) z "bool" true := show kitB "bool" "bool" = some true by decide +kernel
theorem isi_bool_str {b : Bool} {z : Z} : Isi (.sh (.bool b)) z "str" false := show kitB "bool" "str" = some false by decide +kernel
theorem isi_bool_list {b : Bool} {z : Z} : Isi (.sh (.bool b)) z "list" false := show kitB "bool" "list" = some false by decide +kernel
theorem isi_bool_tuple {b : Bool} {z : Z} : Isi (.sh (.bool b)) z "tuple" false := show kitB "bool" "tuple" = some false by decide +kernel
theorem isi_int_int {i : Int} {z : Z} : Isi (.sh (.int i)) z "int" true := show kitB "int" "int" = some true by decide +kernel
theorem isi_int_bool {i : Int} {z : Z} : Isi (.sh (.int i)) z "bool" false := show kitB "int" "bool" = some false by decide +kernel
theorem isi_int_str {i : Int} {z : Z} : Isi (.sh (.int i)) z "str" false := show kitB "int" "str" = some false by decide +kernel
theorem isi_int_list {i : Int} {z : Z} : Isi (.sh (.int i)) z "list" false := show kitB "int" "list" = some false by decide +kernel
theorem isi_int_tuple {i : Int} {z : Z} : Isi (.sh (.int i)) z "tuple" false := show kitB "int" "tuple" = some false by decide +kernel
theorem isi_str_int {x : Str} {z : Z} : Isi (.sh (.str x)) z "int" false := show kitB "str" "int" = some false by decide +kernel
theorem isi_str_bool {x : Str} {z : Z} : Isi (.sh (.str x)) z "bool" false := show kitB "str" "bool" = some false by decide +kernel
theorem isi_str_str {x : Str} {z : Z} : Isi (.sh (.str x)) z "str" true := show kitB "str" "str" = some true by decide +kernel
theorem isi_str_list {x : Str} {z : Z} : Isi (.sh (.str x)) z "list" false := show kitB "str" "list" = some false by decide +kernel
theorem isi_str_tuple {x : Str} {z : Z} : Isi (.sh (.str x)) z "tuple" false := show kitB "str" "tuple" = some false by decide +kernel
theorem isi_list_int {ds : List PyData} {z : Z} : Isi (.sh (.list ds)) z "int" false := show kitB "list" "int" = some false by decide +kernel
theorem isi_list_bool {ds : List PyData} {z : Z} : Isi (.sh (.list ds)) z "bool" false := show kitB "list" "bool" = some false by decide +kernel
theorem isi_list_str {ds : List PyData} {z : Z} : Isi (.sh (.list ds)) z "str" false := show kitB "list" "str" = some false by decide +kernel
theorem isi_list_list {ds : List PyData} {z : Z} : Isi (.sh (.list ds)) z "list" true := show kitB "list" "list" = some true by decide +kernel
theorem isi_list_tuple {ds : List PyData} {z : Z} : Isi (.sh (.list ds)) z "tuple" false := show kitB "list" "tuple" = some false by decide +kernel
theorem isi_tup_int {ds : List PyData} {z : Z} : Isi (.sh (.tuple ds)) z "int" false := show kitB "tuple" "int" = some false by decide +kernel
theorem isi_tup_bool {ds : List PyData} {z : Z} : Isi (.sh (.tuple ds)) z "bool" false := show kitB "tuple" "bool" = some false by decide +kernel
theorem isi_tup_str {ds : List PyData} {z : Z} : Isi (.sh (.tuple ds)) z "str" false := show kitB "tuple" "str" = some false by decide +kernel
theorem isi_tup_list {ds : List PyData} {z : Z} : Isi (.sh (.tuple ds)) z "list" false := show kitB "tuple" "list" = some false by decide +kernel
theorem isi_tup_tuple {ds : List PyData} {z : Z} : Isi (.sh (.tuple ds)) z "tuple" true := show kitB "tuple" "tuple" = some true by decide +kernel
theorem isi_ob_list {i : Nat} {xs : List Sl} {z : Z} (h : z.ob[i]? = some (.lst xs)) : Isi (.ob i) z "list" true := ⟨⟨xs, h⟩, by decide +kernel⟩
theorem isi_ob_tuple {i : Nat} {xs : List Sl} {z : Z} (h : z.ob[i]? = some (.lst xs)) : Isi (.ob i) z "tuple" false := ⟨⟨xs, h⟩, by decide +kernel⟩
/-- plain data of a depth -/
def Pd : Nat → PyData → Prop
  | _, .none => True
  | _, .bool _ => True
  | _, .int _ => True
  | _, .str _ => True
  | n + 1, .list ds => ds.length ≤ 100000 ∧ ∀ d ∈ ds, Pd n d
  | n + 1, .tuple ds => ds.length ≤ 100000 ∧ ∀ d ∈ ds, Pd n d
  | _, _ => False
theorem Pd.mono : ∀ {n m : Nat} {d : PyData}, Pd n d → n ≤ m → Pd m d
  | _, m, .none, _, _ => by cases m <;> trivial
  | _, m, .bool _, _, _ => by cases m <;> trivial
  | _, m, .int _, _, _ => by cases m <;> trivial
  | _, m, .str _, _, _ => by cases m <;> trivial
  | n + 1, m + 1, .list ds, h, l => ⟨h.1, fun d hd => (h.2 d hd).mono (Nat.le_of_succ_le_succ l)⟩
  | n + 1, m + 1, .tuple ds, h, l => ⟨h.1, fun d hd => (h.2 d hd).mono (Nat.le_of_succ_le_succ l)⟩
  | 0, _, .list ds, h, _ => h.elim
  | 0, _, .tuple ds, h, _ => h.elim
  | 0, _, .dict ds, h, _ => h.elim
  | _ + 1, _, .dict ds, h, _ => h.elim
theorem Pd.bools : ∀ (n : Nat) (b : Bool), Pd n (.bool b)
  | 0, _ => trivial
  | _ + 1, _ => trivial
theorem Pd.ints : ∀ (n : Nat) (b : Int), Pd n (.int b)
  | 0, _ => trivial
  | _ + 1, _ => trivial
theorem Pd.strs : ∀ (n : Nat) (b : Str), Pd n (.str b)
  | 0, _ => trivial
  | _ + 1, _ => trivial
end Dl

namespace Dl
open PySem PySem.Spec L2
open PyProof.Rows hiding St

/-! ### comprehensions over data alone -/
section
variable {X : Cx} {tg elt t : Expr} {scope : Scope} {vs : List Nat} {g : TG} {Q : Sl → Z → Prop} {ys : List Sl} {G : Z → Prop} {z1 : Z}
theorem lcd_map (fs : List PyData) (hl : ys.length = fs.length) (hlen : ys.length ≤ 100000) (hG : G ⟨wipeZ z1.sl vs, z1.ob⟩)
    (h : ∀ (i : Nat) (y : Sl) (d : PyData), ys[i]? = some y → fs[i]? = some d → GD X.K vs g y ⟨wipeZ z1.sl vs, z1.ob⟩ fun z2 => ∀ s H C cl fp, WE (Blk X scope s H C cl fp) elt z2 fun x z4 => x = .sh d ∧ z4.ob = z1.ob)
    (hQ : Q (.sh (.list fs)) z1) : LcD X tg elt [] scope vs g (FrzK Q) ys G z1 := by
  refine ⟨hlen, fun i acc om => acc = (fs.take i).map .sh ∧ om = z1.ob, ⟨by simp, rfl⟩, ?_, ?_, ?_⟩
  · rintro i acc om ⟨_, rfl⟩
    exact hG
  · rintro i y acc om hy ⟨rfl, rfl⟩ _
    have hi : i < fs.length := by
      have := (List.getElem?_eq_some_iff.mp hy).1
      omega
    have hd : fs[i]? = some fs[i] := List.getElem?_eq_getElem hi
    intro c w σ v k bb r hk
    refine h i y _ hy hd c w σ v k bb r fun w' σ' z' b' l hw hq => hk w' σ' z' b' l hw fun s H C cl fp => ?_
    refine ⟨fun _ s2 H2 C2 cl2 fp2 => (hq s2 H2 C2 cl2 fp2).mono fun x z4 ⟨e1, e2⟩ => ⟨?_, e2⟩, fun h => by cases h⟩
    rw [e1, List.take_add_one, hd, List.map_append]
    rfl
  · rintro acc om ⟨rfl, rfl⟩ _
    rw [hl, List.take_of_length_le (Nat.le_refl _)]
    exact ⟨fs, allSh_map fs, hQ⟩
theorem lcd_filter (fs : List (Option PyData)) (hl : ys.length = fs.length) (hlen : ys.length ≤ 100000) (hG : G ⟨wipeZ z1.sl vs, z1.ob⟩)
    (h : ∀ (i : Nat) (y : Sl) (o : Option PyData), ys[i]? = some y → fs[i]? = some o → GD X.K vs g y ⟨wipeZ z1.sl vs, z1.ob⟩ fun z2 => ∀ s H C cl fp, WT (Blk X scope s H C cl fp) t z2 fun b z3 => b = o.isSome ∧ z3.ob = z1.ob ∧ ∀ d, o = some d → ∀ s H C cl fp, WE (Blk X scope s H C cl fp) elt z3 fun x z4 => x = .sh d ∧ z4.ob = z1.ob)
    (hQ : Q (.sh (.list (fs.filterMap _root_.id))) z1) : LcD X tg elt [t] scope vs g (FrzK Q) ys G z1 := by
  refine ⟨hlen, fun i acc om => acc = ((fs.take i).filterMap _root_.id).map .sh ∧ om = z1.ob, ⟨by simp, rfl⟩, ?_, ?_, ?_⟩
  · rintro i acc om ⟨_, rfl⟩
    exact hG
  · rintro i y acc om hy ⟨rfl, rfl⟩ _
    have hi : i < fs.length := by
      have := (List.getElem?_eq_some_iff.mp hy).1
      omega
    have hd : fs[i]? = some fs[i] := List.getElem?_eq_getElem hi
    intro c w σ v k bb r hk
    refine h i y _ hy hd c w σ v k bb r fun w' σ' z' b' l hw hq => hk w' σ' z' b' l hw fun s H C cl fp => ?_
    refine (hq s H C cl fp).mono fun b z3 ⟨hb, e3, he⟩ => ⟨fun h1 s2 H2 C2 cl2 fp2 => ?_, fun h1 => ⟨?_, e3⟩⟩
    · rw [hb] at h1
      obtain ⟨d, hd2⟩ := Option.isSome_iff_exists.mp h1
      refine (he d hd2 s2 H2 C2 cl2 fp2).mono fun x z4 ⟨e1, e2⟩ => ⟨?_, e2⟩
      rw [e1, List.take_add_one, hd, hd2, List.filterMap_append, List.map_append]
      rfl
    · rw [hb] at h1
      have hn : fs[i] = none := by
        cases e : fs[i] with
        | none => rfl
        | some d =>
          rw [e] at h1
          cases h1
      rw [List.take_add_one, hd, hn, List.filterMap_append, List.map_append]
      simp
  · rintro acc om ⟨rfl, rfl⟩ _
    rw [hl, List.take_of_length_le (Nat.le_refl _)]
    exact ⟨_, allSh_map _, hQ⟩
end
section
variable {P : Program} {w : World} {K : PySem.W.Frag} {mg : Str → Option Value} {base : Heap} {X : Cx} {N : List Str} {sc : Scope} {k : Nat}
theorem Good.inB (g : Good X P w K mg base N sc k) {scope : Scope} {s : Shared} {H : Hp} {C : Addr} {cl : List (Str × Addr)} {fp : List Addr} {e : Expr} {z : Z} {Q : Sl → Z → Prop} (l : List (Str × Nat)) (gl : List Str) (h1 : l.all (nmB N (relS scope sc)) = true) (h2 : gl.all (gnB (relS scope sc)) = true)
    (h : Nms (Blk X scope s H C cl fp) l → Gns (Blk X scope s H C cl fp) gl → WE (Blk X scope s H C cl fp) e z Q) : WE (Blk X scope s H C cl fp) e z Q := h (g.bnm h1) (g.bgn h2)
theorem Good.inBT (g : Good X P w K mg base N sc k) {scope : Scope} {s : Shared} {H : Hp} {C : Addr} {cl : List (Str × Addr)} {fp : List Addr} {e : Expr} {z : Z} {Q : Bool → Z → Prop} (l : List (Str × Nat)) (gl : List Str) (h1 : l.all (nmB N (relS scope sc)) = true) (h2 : gl.all (gnB (relS scope sc)) = true)
    (h : Nms (Blk X scope s H C cl fp) l → Gns (Blk X scope s H C cl fp) gl → WT (Blk X scope s H C cl fp) e z Q) : WT (Blk X scope s H C cl fp) e z Q := h (g.bnm h1) (g.bgn h2)
/-- a pair of names as a comprehension's target -/
theorem Good.bpg2 (g : Good X P w K mg base N sc k) {scope : Scope} {s : Shared} {H : Hp} {C : Addr} {cl : List (Str × Addr)} {fp : List Addr} {x y : Str} {i j : Nat} {p1 p2 pos : Pos} {kk : Nat} (h : (decide (N[i]? = some x) && nkB ((relS scope sc).names.lookup x) .local && (decide (N[j]? = some y) && nkB ((relS scope sc).names.lookup y) .local)) = true) :
    PG (Blk X scope s H C cl fp) (.Tuple [.Name x p1, .Name y p2] kk pos) (gTup X.K 2 (gNames [i, j])) := by
  rw [Bool.and_eq_true] at h
  exact pg_tup (X := Blk X scope s H C cl fp) (show X.calm = true from g.calm) (pgs_cons (g.bpg h.1) (pgs_cons (g.bpg h.2) pgs_nil))
theorem Good.bpg3 (g : Good X P w K mg base N sc k) {scope : Scope} {s : Shared} {H : Hp} {C : Addr} {cl : List (Str × Addr)} {fp : List Addr} {x y u : Str} {i j m : Nat} {p1 p2 p3 pos : Pos} {kk : Nat} (h : (decide (N[i]? = some x) && nkB ((relS scope sc).names.lookup x) .local && (decide (N[j]? = some y) && nkB ((relS scope sc).names.lookup y) .local) && (decide (N[m]? = some u) && nkB ((relS scope sc).names.lookup u) .local)) = true) :
    PG (Blk X scope s H C cl fp) (.Tuple [.Name x p1, .Name y p2, .Name u p3] kk pos) (gTup X.K 3 (gNames [i, j, m])) := by
  rw [Bool.and_eq_true, Bool.and_eq_true] at h
  exact pg_tup (X := Blk X scope s H C cl fp) (show X.calm = true from g.calm) (pgs_cons (g.bpg h.1.1) (pgs_cons (g.bpg h.1.2) (pgs_cons (g.bpg h.2) pgs_nil)))
end
theorem rd_eqN {X : Cx} {z : Z} {Q : Sl → Z → Prop} (h : Q (.sh (.bool true)) z) : RD X (compareOp .Eq) (.sh .none) (.sh .none) z Q := fun c w σ v u k b r1 r2 hk => by
  cases Dp_non r1
  cases Dp_non r2
  exact rB_of op_eq ⟨rfl, hk _ _ w z b (.refl w) (vB true) h⟩
/-- the built-ins that a text does not bind -/
structure Bare (mg : Str → Option Value) : Prop where
  len : mg "len" = none
  abs : mg "abs" = none
  int : mg "int" = none
  isi : mg "isinstance" = none
  list : mg "list" = none
  tup : mg "tuple" = none
  str : mg "str" = none
  bool : mg "bool" = none
  all : mg "all" = none
  any : mg "any" = none
  zip : mg "zip" = none
  range : mg "range" = none
  min : mg "min" = none
  max : mg "max" = none
  sorted : mg "sorted" = none
  set : mg "set" = none
  dict : mg "dict" = none
  repr : mg "repr" = none
section
variable {P : Program} {w : World} {K : PySem.W.Frag} {mg : Str → Option Value} {base : Heap} {X : Cx} {N : List Str} {sc : Scope} {k : Nat}
theorem Good.loc (g : Good X P w K mg base N sc k) {x : Str} (h : nkB (sc.names.lookup x) .local = true) : X.env.scope.names.lookup x = some .local := by
  rw [g.sc]
  exact nkB_eq h
theorem Good.df_rec (g : Good X P w K mg base N sc k) {f : Addr} {fd : FuncData} {x : Str} {j : Nat} {ps : List Str} {R : Rl} (G : FnOk P w K mg base CX0 j f fd ps (spD K ps.length R)) (hm : mg x = some (.ref f)) (hk : PySem.W.keepIn K (.ref f) = true) (hb : Binds K fd ps []) : Df P w K mg base x j ps R := ⟨f, fd, G, hm, hk, hb⟩
end
end Dl

namespace Dl
open PySem PySem.Spec L2 PpSet
open PyProof.Rows hiding St
/-! ### set comprehensions of ints; set(list of ints): turned from the library's of truths and of tuples -/
section
variable {X : Cx}
theorem addI_ok {pins : List (Addr × Obj)} {σ : St} {H : Hp} {s : Shared} {E : Value → Shared → Prop} {D : Addr} {S : Int → Bool} {n : Nat} {y : Int} {tk : Tok} {Q : Value → Shared → Prop} (I : Inv X pins σ H s) (hD : H D = some (SetO X.w D S n)) (room : n + 1 < scanBound)
    (h : ∀ s', Inv X pins σ (upd H D (SetO X.w D (fun j => S j || decide (j = y)) (if S y = true then n else n + 1))) s' → Q .none s') : wpAny (model X.prog X.w) X.A (call (.builtin "set.add") [.ref D, .int y tk]) Q E s := by
  have R := setO_get I hD
  refine setR_add R room fun h' sb new => ?_
  have he : ∃ u, h'.get? D = some u := by
    have ⟨o, _, _, _, ho, _⟩ := new
    exact ⟨o, ho⟩
  exact h _ (I.write (e := D) (t' := s.toks + 1) (by rw [hD]; trivial) (.inl rfl) (fun b u hb hu => (sb.2 b hb).trans hu) he (setO_new new))
def tScI (w : World) (wi : TI) (g : TG) (tt : TT) (te : TE) (vs : List Nat) : TE := fun σ H Q => wi σ H fun J H1 => ∀ D, H1 D = none → ∃ W : Nat → Nat → Hp → Prop, (∃ m, W 0 m (upd H1 D (SetO w D (fun _ => false) 0))) ∧ ∀ i m H, W i m H →
  (J.stop i H ∧ Q (.ref D) H) ∨ (J.go i H ∧ ∃ Nx : Hp → Prop, (∀ H', Nx H' → ∃ m', m' < m ∧ W (i + 1) m' H') ∧ ∀ x H', J.yld i H x H' → g x (wipe σ vs) H' fun σ2 H2 => wipe σ2 vs = wipe σ vs ∧ tt σ2 H2 fun b H3 =>
    if b = true then te σ2 H3 fun y H4 => ∃ (c : Int) (S : Int → Bool) (n : Nat), y = .int c ∧ H4 D = some (SetO w D S n) ∧ n + 1 < scanBound ∧ Nx (upd H4 D (SetO w D (fun j => S j || decide (j = c)) (if S c = true then n else n + 1))) else Nx H3)
theorem scI_core {pins : List (Addr × Obj)} {s : Shared} {σ : St} {H : Hp} {Q : VK} {elt tg iter : Expr} {ifs : List Expr} {scope : Scope} {own : List (Str × Nat)} {pos pos' : Pos} {wi : TI} {g : TG} {tt : TT} {te : TE} {use : Option (Value → Sem Unit)} {Qf : Value → Shared → Prop}
    (hc : X.calm = true) (hN : X.N.Nodup) (I : Inv X pins σ H s) (hi : PI X tg iter wi) (ok : BlkOk X.N X.env.scope scope own)
    (hg : ∀ (s : Shared) (H : Hp) (C : Addr) (cl : List (Str × Addr)) (fp : List Addr), PG (X.blk s H scope (compEnvC scope cl C X.env) fp) tg g) (ht : ∀ (s : Shared) (H : Hp) (C : Addr) (cl : List (Str × Addr)) (fp : List Addr), PTs (X.blk s H scope (compEnvC scope cl C X.env) fp) ifs tt)
    (he : ∀ (s : Shared) (H : Hp) (C : Addr) (cl : List (Str × Addr)) (fp : List Addr), PE (X.blk s H scope (compEnvC scope cl C X.env) fp) elt te) (hs : ∀ x, foldedSetIterable iter X.env x = pure x)
    (h : tScI X.w wi g tt te (own.map (·.2)) σ H Q)
    (hRR : ∀ D C s' m H', Inv X pins σ H' s' → Q (.ref D) H' → s'.heap.Ns C m → FpOk X pins H' C → compPost (model X.prog X.w) X.A X.xe use Qf (.ref D) C (.ok .next) s') :
    wpAny (model X.prog X.w) X.A (comprehension (.SetComp elt [⟨tg, iter, ifs, 0⟩] scope pos) scope X.env pos' (newSet (.type "set")) false (eval iter X.env) use) Qf X.xe s := by
  have hfree : ∀ y ∈ scope.names, y.2 = .free → ∃ c, X.env.cells.lookup y.1 = some c := fun y hy e => by
    rcases ok.free y hy e with k | k
    · exact I.ok.has _ (.inl k)
    · exact I.ok.has _ (.inr k)
  refine wpAny_comprehension_free (use := use) rfl hs (closure_ok hfree) ok.kind (fun y hy e => by rw [ok.uniq y hy, e])
    (thn (hi.run pins s σ H _ I h) fun xv s1 hx => thn hx fun itv s2 h2 => ?_)
  obtain ⟨it, fp, tn, J, H2, e, I2, T, st2, f2, q⟩ := h2
  subst e
  refine newSet_ok (newEnv_comp ?_)
  generalize hD : s2.heap.objs.size = D
  have hDn : H2 D = none := I2.hok.fresh (Nat.le_of_eq hD)
  obtain ⟨W, ⟨m0, w0⟩, turn⟩ := q D hDn
  -- the new list
  generalize hs3 : ({ s2 with heap := s2.heap.push { cls := .type "set", dict := none, data := .set #[] 0 (.fresh 0 0 (!X.w.params.followText "set-order")) } } : Shared) = s3
  have I3 : Inv X pins σ (upd H2 D (SetO X.w D (fun _ => false) 0)) s3 := by
    rw [← hs3]
    refine I2.laid (t' := s2.toks) (fun b o e => Heap.get?_push_of_some _ e) (Nat.le_of_eq hD) ?_
    rw [← hD]
    exact setO_new (setR_fresh X.w)
  have h3 : s3.heap = s2.heap.push { cls := .type "set", dict := none, data := .set #[] 0 (.fresh 0 0 (!X.w.params.followText "set-order")) } := by rw [← hs3]
  have sz : ∀ b ∈ fp, b < s2.heap.objs.size := fun b hb => by
    obtain ⟨o, e, _⟩ := T.obj _ _ st2 b hb
    exact Heap.lt_size e
  have f3 : ∀ b ∈ fp, FpOk X pins (upd H2 D (SetO X.w D (fun _ => false) 0)) b ∧ b < s3.heap.objs.size := fun b hb => by
    have hlt := sz b hb
    refine ⟨⟨?_, (f2 b hb).2⟩, by rw [h3, Heap.size_push]; exact Nat.lt_succ_of_lt hlt⟩
    rw [upd_ne (by rw [← hD]; exact Nat.ne_of_lt hlt)]
    exact (f2 b hb).1
  have st3 : tn 0 s3.heap := T.keep _ _ _ st2 fun b _ o e => by rw [h3]; exact Heap.get?_push_of_some _ e
  have I4 := block_start I3 ok hN f3
  have pg := hg s3 (upd H2 D (SetO X.w D (fun _ => false) 0)) s3.heap.objs.size (cellsFrom (s3.heap.objs.size + 1) scope.names (cloFrom X.env.cells scope.names [])) fp
  have pt := ht s3 (upd H2 D (SetO X.w D (fun _ => false) 0)) s3.heap.objs.size (cellsFrom (s3.heap.objs.size + 1) scope.names (cloFrom X.env.cells scope.names [])) fp
  have pe := he s3 (upd H2 D (SetO X.w D (fun _ => false) 0)) s3.heap.objs.size (cellsFrom (s3.heap.objs.size + 1) scope.names (cloFrom X.env.cells scope.names [])) fp
  show codeAny _ _ (.compStart (.SetComp elt [⟨tg, iter, ifs, 0⟩] scope pos) 0 (.ref it) (.ref D) (compEnvC scope (cellsFrom (s3.heap.objs.size + 1) scope.names (cloFrom X.env.cells scope.names [])) s3.heap.objs.size X.env)) (compPost (model X.prog X.w) X.A X.xe use Qf (.ref D) s3.heap.objs.size) { s3 with heap := pushCells (s3.heap.push { cls := .type "dict", data := .dict #[] }) scope.names }
  have nfp : ∀ b ∈ fp, (upd H2 D (SetO X.w D (fun _ => false) 0)) b = none := fun b hb => (f3 b hb).1.1
  generalize hce : compEnvC scope (cellsFrom (s3.heap.objs.size + 1) scope.names (cloFrom X.env.cells scope.names [])) s3.heap.objs.size X.env = ce at I4 pg pt pe ⊢
  have cL : ce.locals = s3.heap.objs.size := by subst hce; rfl
  generalize hH3 : upd H2 D (SetO X.w D (fun _ => false) 0) = H3 at I3 I4 pg pt pe w0 nfp f3
  generalize hs4 : ({ s3 with heap := pushCells (s3.heap.push { cls := .type "dict", data := .dict #[] }) scope.names } : Shared) = s4 at I4 ⊢
  have st4 : tn 0 s4.heap := T.keep _ _ _ st3 fun b _ o e => by rw [← hs4]; exact pushCells_keeps _ _ _ _ (Heap.get?_push_of_some _ e)
  have stat : ∀ {σ' : St} {H' : Hp} {s' : Shared}, Inv (X.blk s3 H3 scope ce fp) [] σ' H' s' → (∀ b ∈ fp, H' b = none) → ∀ b ∈ fp, FpOk (X.blk s3 H3 scope ce fp) [] H' b := fun {σ' H' s'} I' hn b hb =>
    ⟨hn b hb, (I'.ok.exf b hb).1, I'.ok.exfs b hb, .inl hb, fun x c e => (I'.ok.exf b hb).2 x c e, fun p hp => absurd (show p ∈ ([] : List (Addr × Obj)) ++ [] from hp) (by simp)⟩
  have loop : codeAny (model X.prog X.w) X.A (.compLoop (.SetComp elt [⟨tg, iter, ifs, 0⟩] scope pos) 0 (.ref it) (.ref D) ce) (compPost (model X.prog X.w) X.A X.xe use Qf (.ref D) s3.heap.objs.size) s4 := by
    refine compLoopS_any (fun n s' => ∃ i H', Inv (X.blk s3 H3 scope ce fp) [] (wipe σ (own.map (·.2))) H' s' ∧ tn i s'.heap ∧ (∀ b ∈ fp, H' b = none) ∧ W i n H') ?_ m0 ⟨0, H3, I4, st4, nfp, w0⟩
    rintro n s5 ⟨i, H5, I5, st5, n5, w5⟩
    rcases turn i n H5 w5 with ⟨stop, qq⟩ | ⟨go, Nx, hNx, step⟩
    · have td := T.done (X.blk s3 H3 scope ce fp) rfl rfl rfl hc i [] s5 _ H5 (fun _ _ => False) I5 (stat I5 n5) st5 stop
      refine thnF td fun r s6 ⟨hr, I6⟩ => ?_
      subst hr
      -- back in the def's context
      have I7 : Inv X pins σ H5 s6 := I3.call' (ch := fp) I6.os I6.base I6.hok I6.bare fun b hb => ⟨(f3 b hb).1.2.2.2.1, (f3 b hb).1.2.1, (f3 b hb).1.2.2.2.2.1, (f3 b hb).1.2.2.2.2.2⟩
      have nC : H5 s3.heap.objs.size = none := by
        have z : H5 ce.locals = none := I6.free
        rw [cL] at z
        exact z
      obtain ⟨m, hn, _⟩ := I6.loc
      have hn : s6.heap.Ns ce.locals m := hn
      rw [cL] at hn
      exact hRR D s3.heap.objs.size s6 m H5 I7 qq hn (I3.fpOk (Nat.le_refl _) nC)
    · have ti := T.item (X.blk s3 H3 scope ce fp) rfl rfl rfl hc i [] s5 _ H5 (fun _ _ => False) I5 (stat I5 n5) st5 go
      refine thnF ti fun r s6 ⟨u, hr, h6⟩ => ?_
      subst hr
      refine thnF h6 fun _ s7 ⟨x, H7, I7, r7, y7, st7, n7⟩ => ?_
      have I7' := I7.pinned (stat I7 n7) (T.obj _ _ st7)
      refine thnF (pg.run _ s7 _ H7 x u _ I7' r7 (step x H7 y7)) fun _ s8 ⟨σ8, H8, I8, hw8, q8⟩ => ?_
      refine thnF (pt.run _ s8 σ8 H8 _ I8 q8) fun b s9 ⟨H9, I9, q9⟩ => ?_
      -- the turn's end
      have fin : ∀ {s' : Shared} {H' : Hp}, Inv (X.blk s3 H3 scope ce fp) ([] ++ pinsAt fp s7.heap) σ8 H' s' → Nx H' → ∃ m, m < n ∧ ∃ i H', Inv (X.blk s3 H3 scope ce fp) [] (wipe σ (own.map (·.2))) H' s' ∧ tn i s'.heap ∧ (∀ b ∈ fp, H' b = none) ∧ W i m H' := fun {s' H'} I' nx => by
        obtain ⟨m', hm, w'⟩ := hNx H' nx
        have pin' : ∀ b ∈ fp, ∀ o, s7.heap.get? b = some o → s'.heap.get? b = some o ∧ H' b = none := fun b hb o e =>
          let z := I'.pin (b, o) (List.mem_append_right _ (List.mem_append_right _ (mem_pinsAt hb e)))
          ⟨z.1, z.2.1⟩
        have hl : (wipe σ (own.map (·.2))).length = σ8.length := by rw [← hw8, wipe_length]
        refine ⟨m', hm, i + 1, H', (I'.unpinned (pins := [])).weak hl (fun j v e => ?_), T.keep _ _ _ st7 fun b hb o e => (pin' b hb o e).1, fun b hb => ?_, w'⟩
        · rw [← hw8] at e
          exact (wipe_some e).1
        · obtain ⟨o, e, _⟩ := T.obj _ _ st7 b hb
          exact (pin' b hb o e).2
      cases b with
      | false =>
        simp only [Bool.false_eq_true, if_false] at q9 ⊢
        exact fin I9 q9
      | true =>
        simp only [if_true] at q9 ⊢
        refine thnF (pe.run _ s9 σ8 H9 _ I9 q9) fun z s10 ⟨yv, H10, I10, r10, cb, S0, n0, ey, hD10, hz10, nx⟩ => ?_
        subst ey
        obtain ⟨tk, rfl⟩ := (show ∃ t, z = Value.int cb t from r10)
        exact addI_ok (X := X.blk s3 H3 scope ce fp) I10 hD10 hz10 fun s11 I11 => fin I11 nx
  exact codeAny_compStart_set loop (T.self X.A 0 _ _ _ st4 loop)
/-- as a value -/
theorem pe_scI {elt tg iter : Expr} {ifs : List Expr} {scope : Scope} {own : List (Str × Nat)} {pos : Pos} {wi : TI} {g : TG} {tt : TT} {te : TE} (hc : X.calm = true) (hN : X.N.Nodup) (hi : PI X tg iter wi) (ok : BlkOk X.N X.env.scope scope own)
    (hg : ∀ (s : Shared) (H : Hp) (C : Addr) (cl : List (Str × Addr)) (fp : List Addr), PG (X.blk s H scope (compEnvC scope cl C X.env) fp) tg g) (ht : ∀ (s : Shared) (H : Hp) (C : Addr) (cl : List (Str × Addr)) (fp : List Addr), PTs (X.blk s H scope (compEnvC scope cl C X.env) fp) ifs tt)
    (he : ∀ (s : Shared) (H : Hp) (C : Addr) (cl : List (Str × Addr)) (fp : List Addr), PE (X.blk s H scope (compEnvC scope cl C X.env) fp) elt te) (hs : ∀ x, foldedSetIterable iter X.env x = pure x := by intro _; rfl) :
    PE X (.SetComp elt [⟨tg, iter, ifs, 0⟩] scope pos) (tScI X.w wi g tt te (own.map (·.2))) := by
  refine ⟨fun pins s σ H Q I h => ?_⟩
  rw [eval_SetComp]
  refine scI_core hc hN I hi ok hg ht he hs h fun D C s' m H' I' q hn f => ⟨m, hn, fun h'' sb => ?_⟩
  obtain ⟨f0, f1, f2, f3, f4, f5⟩ := f
  exact ⟨.ref D, H', I'.turned (t' := s'.toks) (fun b o hb e => (sb.2 b hb).trans e) f0 f1 f3 f4 f5, rfl, q⟩

end
section
variable {P : Program} {w : World} {A : Around} {E : Value → Shared → Prop} {s : Shared}
set_option maxHeartbeats 3200000 in
theorem call_set_listI {l : Addr} {items : Array Value} (ns : List Int) {Q : Value → Shared → Prop} (hh : A.handled = none) (hl : s.heap.IsList l items) (hit : IntsAre items.toList ns) (hb : ns.length + 1 < scanBound)
    (h : ∀ (h' : Heap) (tk c : Nat), SetR w h' s.heap.objs.size (fun j => decide (j ∈ ns)) c → c ≤ ns.length → (∀ b o, s.heap.get? b = some o → h'.get? b = some o) → Q (.ref s.heap.objs.size) { s with heap := h', toks := tk }) :
    wpAny (model P w) A (call (.type "set") [.ref l]) Q E s := by
  have hisz : items.size = ns.length := by
    have q := IntsAre.length hit
    rw [Array.length_toList] at q
    exact q
  obtain ⟨c, tl, hmro⟩ := F.called_set.mro
  have hmade := F.called_set.made
  have hsub := F.called_set.sub
  refine wpAny_call (codeAny_of_tree ?_)
  show wpAny _ _ (callAny (.type "set") _) _ _ _
  refine wpAny_pure ⟨Code.quiet_builtin _ (by decide +kernel), codeAny_builtin F.entry_type_call ?_⟩
  rw [Around.under_plain (weight_type_call_type "set" [.ref l] []) rfl]
  have h1 := F.called_set.notType
  have h2 := F.called_set.canCreate
  have hct := F.typeCall_set_1 (.ref l)
  repeat (any_goals (first | assumption | wp_step))

  refine codeAny_mono (code_set_led1 (.ref l) (E := E) (Q₁ := fun obj s₁ => obj = .ref s.heap.objs.size ∧ s₁ = { s with heap := s.heap.push { cls := .type "set", dict := none, data := .set #[] 0 (.fresh 0 0 (!w.params.followText "set-order")) } }) ⟨rfl, rfl⟩) fun r s₁ hr => ?_
  cases r with
  | error e => exact hr
  | ok fl =>
    cases fl with
    | ret obj =>
      obtain ⟨rfl, rfl⟩ := hr
      have hS : (s.heap.push { cls := .type "set", dict := none, data := .set #[] 0 (.fresh 0 0 (!w.params.followText "set-order")) }).get? s.heap.objs.size = some { cls := .type "set", dict := none, data := .set #[] 0 (.fresh 0 0 (!w.params.followText "set-order")) } := Heap.get?_push_size _ rfl
      have hT : Shared.TypeIs { s with heap := s.heap.push { cls := .type "set", dict := none, data := .set #[] 0 (.fresh 0 0 (!w.params.followText "set-order")) } } (.ref s.heap.objs.size) "set" := ⟨_, hS, rfl⟩
      have hli := F.called_set.init.lookup
      have hbi := F.called_set.init.bind (.ref s.heap.objs.size)
      repeat (any_goals (first | assumption | wp_step))

      refine codeAny_mono (codeAny_call_builtin (R := wants (fun r s₂ => r = .none ∧ ∃ h' tk c, s₂ = { s with heap := h', toks := tk } ∧ SetR w h' s.heap.objs.size (fun j => decide (j ∈ ns)) c ∧ c ≤ ns.length ∧
          (∀ b o, s.heap.get? b = some o → h'.get? b = some o)) E) F.called_set.init.plain F.entry_set_init (check_set_init_1 hT ?_)) fun r₂ s₂ hr₂ => ?_
      · obtain ⟨ol, hol, hcl, nl, hdl⟩ := hl
        obtain ⟨ocls, odict, odata, oslots⟩ := ol
        simp only at hcl hdl
        subst hcl; subst hdl
        have hol' : (s.heap.push { cls := .type "set", dict := none, data := .set #[] 0 (.fresh 0 0 (!w.params.followText "set-order")) }).get? l = some { cls := .type "list", dict := odict, data := .seq items nl, slots := oslots } := Heap.get?_push_of_some _ hol
        have hsls := F.sub_list_set
        have hslf := F.sub_list_frozenset
        have hne : (Value.type "list" == Value.type "dict") = false := by decide
        have hl1 : (s.heap.push { cls := .type "set", dict := none, data := .set #[] 0 (.fresh 0 0 (!w.params.followText "set-order")) }).IsList l items := ⟨_, hol', rfl, nl, rfl⟩
        unfold Builtin.«set.__init__» noKeywords Builtin.Frozenset.updateFrom
        generalize hPI : pyIter = PI
        wp_walk
        subst hPI

        refine wpAny_pyIter_list hl1 ?_
        refine wpAny_bind (wpAny_runValue ?_)
        have hlS : l < s.heap.objs.size := Heap.lt_size hol
        have hh3 : A.in1.in1.in1.handled = none := by simp [hh]
        have hz1 : (s.heap.push { cls := .type "set", dict := none, data := .set #[] 0 (.fresh 0 0 (!w.params.followText "set-order")) }).objs.size = s.heap.objs.size + 1 := Heap.size_push ..
        have hneI : l ≠ (s.heap.push { cls := .type "set", dict := none, data := .set #[] 0 (.fresh 0 0 (!w.params.followText "set-order")) }).objs.size := by
          rw [Heap.size_push]; exact Nat.ne_of_lt (Nat.lt_succ_of_lt hlS)
        have hSf : s.heap.objs.size ∉ [(s.heap.push { cls := .type "set", dict := none, data := .set #[] 0 (.fresh 0 0 (!w.params.followText "set-order")) }).objs.size, l] := by
          rw [Heap.size_push]; simp only [List.mem_cons, List.mem_singleton, List.not_mem_nil, or_false, not_or]
          exact ⟨Nat.ne_of_lt (Nat.lt_succ_self _), Nat.ne_of_gt hlS⟩
        have hval : ∀ (i : Nat) (v : Value), items[i]? = some v → ∃ k t, ns[i]? = some k ∧ v = .int k t := fun i v hv => by
          have hi : i < ns.length := by rw [← hisz]; exact (Array.getElem?_eq_some_iff.mp hv).1
          obtain ⟨t, e⟩ := PyProof.Rows.IntsAre.int_at hit i v (by rw [Array.getElem?_toList]; exact hv)
          refine ⟨ns[i], t, List.getElem?_eq_getElem hi, ?_⟩
          rw [e, List.getD_eq_getElem?_getD, List.getElem?_eq_getElem hi] <;> rfl
        refine set_update_ints ((Walks.list hh3 _ l hneI items).toS) s.heap.objs.size
          hSf ns hisz hb hval (items.size - 0) 0 _ (by omega) (Nat.zero_le _)
          ⟨⟨_, Heap.get?_push_size _ rfl, rfl, rfl⟩, (hl1.push _)⟩ ?hS0 ?hR
        case hS0 =>
          have hget : ((s.heap.push { cls := .type "set", dict := none, data := .set #[] 0 (.fresh 0 0 (!w.params.followText "set-order")) }).push { cls := .type "list_iterator", data := .fields #[.ref l, .int 0 0] }).get? s.heap.objs.size
              = some { cls := .type "set", dict := none, data := .set #[] 0 (.fresh 0 0 (!w.params.followText "set-order")) } := Heap.get?_push_of_some _ hS
          exact ⟨0, Nat.le_refl 0, setR_new_at hget⟩
        case hR =>
          intro s' c' hm hc' hS'
          obtain ⟨h', g2, d', tk', os'⟩ := s'
          have eg : g2 = s.gens := hm.gens
          have ed : d' = s.drawn := hm.drawn
          have eo : os' = s.os := hm.os
          subst eg; subst ed; subst eo
          show wpAny _ _ _ _ _ _
          refine wpAny_pure ?_
          show wpAny _ _ (ret Value.none) _ _ _
          rw [hisz] at hc'
          refine wpAny_pure ⟨rfl, h', tk', c', rfl, hS', hc', fun b o e => ?_⟩
          have hb0 : b < s.heap.objs.size := Heap.lt_size e
          have hb1 : b ≠ s.heap.objs.size := Nat.ne_of_lt hb0
          have hb2 : b ≠ (s.heap.push { cls := .type "set", dict := none, data := .set #[] 0 (.fresh 0 0 (!w.params.followText "set-order")) }).objs.size := by
            rw [Heap.size_push]; exact Nat.ne_of_lt (Nat.lt_succ_of_lt hb0)
          exact hm.heap b o (by simp only [List.mem_cons, List.mem_singleton, List.not_mem_nil, or_false, not_or]; exact ⟨hb1, hb2⟩) (Heap.get?_push_of_some _ (Heap.get?_push_of_some _ e))

      · cases r₂ with
        | error e => exact hr₂
        | ok fl₂ =>
          cases fl₂ with
          | ret r =>
            obtain ⟨rfl, h', tk, c', rfl, hS', hc', hk'⟩ := hr₂
            repeat (any_goals (first | assumption | wp_step))
            exact h _ _ _ hS' hc' hk'
          | _ => exact hr₂.elim
    | _ => exact hr.elim

end
end Dl

namespace Dl
open PySem PySem.Spec L2
open PyProof.Rows hiding St

/-! ### rising lists without twins -/
def insU (n : Int) : List Int → List Int
  | [] => [n]
  | m :: r => if n < m then n :: m :: r else if n = m then m :: r else m :: insU n r
def usort : List Int → List Int
  | [] => []
  | n :: r => insU n (usort r)
theorem insU_mem (n k : Int) : ∀ l : List Int, k ∈ insU n l ↔ k = n ∨ k ∈ l
  | [] => by simp [insU]
  | m :: r => by
    unfold insU
    split
    · simp
    · split
      · rename_i h
        subst h
        simp
      · rw [List.mem_cons, insU_mem n k r, List.mem_cons]
        constructor
        · rintro (h | h | h)
          · exact .inr (.inl h)
          · exact .inl h
          · exact .inr (.inr h)
        · rintro (h | h | h)
          · exact .inr (.inl h)
          · exact .inl h
          · exact .inr (.inr h)
theorem insU_sorted (n : Int) : ∀ l : List Int, l.Pairwise (· < ·) → (insU n l).Pairwise (· < ·)
  | [], _ => by simp [insU]
  | m :: r, h => by
    have h1 := List.pairwise_cons.mp h
    unfold insU
    split
    · rename_i hl
      refine List.pairwise_cons.mpr ⟨fun a ha => ?_, h⟩
      rcases List.mem_cons.mp ha with rfl | ha
      · exact hl
      · exact Int.lt_trans hl (h1.1 a ha)
    · split
      · exact h
      · rename_i h2 h3
        refine List.pairwise_cons.mpr ⟨fun a ha => ?_, insU_sorted n r h1.2⟩
        rcases (insU_mem n a r).mp ha with rfl | ha
        · omega
        · exact h1.1 a ha
theorem usort_mem (k : Int) : ∀ l : List Int, k ∈ usort l ↔ k ∈ l
  | [] => Iff.rfl
  | n :: r => by
    unfold usort
    rw [insU_mem, usort_mem k r, List.mem_cons]
theorem usort_sorted : ∀ l : List Int, (usort l).Pairwise (· < ·)
  | [] => .nil
  | n :: r => insU_sorted n _ (usort_sorted r)
theorem insU_len (n : Int) : ∀ l : List Int, (insU n l).length ≤ l.length + 1
  | [] => Nat.le_refl _
  | m :: r => by
    unfold insU
    split
    · exact Nat.le_refl _
    · split
      · exact Nat.le_succ _
      · have := insU_len n r
        rw [List.length_cons, List.length_cons]
        omega
theorem usort_len : ∀ l : List Int, (usort l).length ≤ l.length
  | [] => Nat.le_refl _
  | n :: r => by
    have h1 := insU_len n (usort r)
    have h2 := usort_len r
    show (insU n (usort r)).length ≤ r.length + 1
    omega
theorem rising_unique : ∀ {a b : List Int}, a.Pairwise (· < ·) → b.Pairwise (· < ·) → (∀ k, k ∈ a ↔ k ∈ b) → a = b
  | [], [], _, _, _ => rfl
  | [], y :: b, _, _, h => absurd ((h y).mpr List.mem_cons_self) (by simp)
  | x :: a, [], _, _, h => absurd ((h x).mp List.mem_cons_self) (by simp)
  | x :: a, y :: b, ha, hb, h => by
    have h1 := List.pairwise_cons.mp ha
    have h2 := List.pairwise_cons.mp hb
    have hxy : x = y := by
      rcases List.mem_cons.mp ((h x).mp List.mem_cons_self) with e | e
      · exact e
      · rcases List.mem_cons.mp ((h y).mpr List.mem_cons_self) with e2 | e2
        · exact e2.symm
        · have := h2.1 x e
          have := h1.1 y e2
          omega
    subst hxy
    congr 1
    refine rising_unique h1.2 h2.2 fun k => ⟨fun hk => ?_, fun hk => ?_⟩
    · rcases List.mem_cons.mp ((h k).mp (List.mem_cons_of_mem _ hk)) with e | e
      · have := h1.1 k hk
        omega
      · exact e
    · rcases List.mem_cons.mp ((h k).mpr (List.mem_cons_of_mem _ hk)) with e | e
      · have := h2.1 k hk
        omega
      · exact e
theorem usort_eq {ns ms : List Int} (h1 : ms.Pairwise (· < ·)) (h2 : ∀ k, k ∈ ms ↔ k ∈ ns) : ms = usort ns := rising_unique h1 (usort_sorted ns) fun k => (h2 k).trans (usort_mem k ns).symm

/-! ### sorted({..}) and sorted(set(..)) of ints -/
section
variable {X : Cx} {tg iter elt t : Expr} {scope : Scope} {z : Z} {pos pos' p : Pos} {own : List (Str × Nat)} {g : TG} {Q : Sl → Z → Prop}
/-- what a set comprehension of ints asks -/
def ScD (X : Cx) (elt t : Expr) (scope : Scope) (vs : List Nat) (g : TG) (Q : List Int → Z → Prop) : List Sl → (Z → Prop) → Z → Prop := fun ys G z1 => ys.length < 64 ∧ G ⟨wipeZ z1.sl vs, z1.ob⟩ ∧ ∃ fs : List (Option Int), ys.length = fs.length ∧
  (∀ (i : Nat) (y : Sl) (o : Option Int), ys[i]? = some y → fs[i]? = some o → GD X.K vs g y ⟨wipeZ z1.sl vs, z1.ob⟩ fun z2 => ∀ s H C cl fp, WT (Blk X scope s H C cl fp) t z2 fun b z3 => b = o.isSome ∧ z3.ob = z1.ob ∧ ∀ d, o = some d → ∀ s H C cl fp, WE (Blk X scope s H C cl fp) elt z3 fun x z4 => x = .sh (.int d) ∧ z4.ob = z1.ob) ∧
  Q (usort (fs.filterMap _root_.id)) z1
theorem sc_ok {P : List Int → Z → Prop} {c : Ct} {w : Wd} {σ : St} {k : VK} (hc : X.calm = true) (bb : B X.K c w σ z) (h : WI X tg iter z (ScD X elt t scope (own.map (·.2)) g P))
    (hk : ∀ ms z1 w1, B X.K c w1 σ z1 → w.Le w1 → P ms z1 → ∀ q, w1.H q = none → k (.ref q) (upd w1.H q (.lst (ms.map V.int)))) :
    tScI X.w (tI X tg iter) g (fun σ H Q => ∀ s H0 C cl fp, tTs (Blk X scope s H0 C cl fp) [t] σ H Q) (fun σ H Q => ∀ s H0 C cl fp, tE (Blk X scope s H0 C cl fp) elt σ H Q) (own.map (·.2)) σ w.H (fun x H1 => rSortedSet X.w [x] H1 k) := by
  refine h c w σ _ bb fun J ys G w1 z1 b1 l1 dw ⟨hyl, hG, fs, hl, hs, hP⟩ D hD => ?_
  have as1 : Aside c w1 D := b1.asideNew hD
  refine ⟨fun i m H' => m = ys.length - i ∧ i ≤ ys.length ∧ ∃ w' S n, B X.K c w' σ z1 ∧ w1.Le w' ∧ w'.H = H' ∧ Aside c w' D ∧ w'.H D = some (SetO X.w D S n) ∧ n ≤ i ∧ ∀ k, S k = true ↔ k ∈ (fs.take i).filterMap _root_.id,
    ⟨ys.length, by simp, Nat.zero_le _, ⟨w1.rho, w1.S, upd w1.H D (SetO X.w D (fun _ => false) 0)⟩, fun _ => false, 0, b1.aside as1, le_aside, rfl, ⟨as1.nr, as1.nS, as1.nc⟩, upd_same, Nat.zero_le _, fun k => by simp⟩, ?_⟩
  rintro i m H2 ⟨rfl, hi, w2, S, n, b2, l2, rfl, as2, hD2, hn, hS⟩
  have bw := b2.wipe (own.map (·.2))
  by_cases hlt : i < ys.length
  · refine .inr ⟨dw.goes i c w2 _ _ hlt bw l2 hG, fun H' => ∃ w' S n, B X.K c w' σ z1 ∧ w1.Le w' ∧ w'.H = H' ∧ Aside c w' D ∧ w'.H D = some (SetO X.w D S n) ∧ n ≤ i + 1 ∧ ∀ k, S k = true ↔ k ∈ (fs.take (i + 1)).filterMap _root_.id,
      fun H' q => ⟨ys.length - (i + 1), by omega, rfl, hlt, q⟩, fun x H' y => ?_⟩
    have hy : ys[i]? = some ys[i] := List.getElem?_eq_getElem hlt
    have hif : i < fs.length := by omega
    have hf : fs[i]? = some fs[i] := List.getElem?_eq_getElem hif
    have bs := bw.self
    obtain ⟨w3, rfl, b3, l3, r3⟩ := dw.yields i w2.ct w2 _ _ x H' ys[i] hy bs l2 hG y
    refine hs i ys[i] fs[i] hy hf w2.ct w3 _ x _ b3 r3 fun w4 σ4 z4 b4 l4 hwp hw => ⟨hwp.trans (wipe_wipe σ _), fun s0 H0 C cl fp => ?_⟩
    refine hw s0 H0 C cl fp w2.ct w4 σ4 _ b4 fun d w5 z5 b5 l5 ⟨hb, e5, he⟩ => ?_
    have l25 : w2.Le w5 := (l3.trans l4).trans l5
    have back : ∀ {w6 : Wd} {σ6 : St} {z6 : Z}, B X.K w2.ct w6 σ6 z6 → w2.Le w6 → z6.ob = z1.ob → B X.K c w6 σ z1 := fun {w6 σ6 z6} b6 l6 e6 => by
      have := b2.slots (b2.comp b6) l6
      rw [e6] at this
      exact this
    cases d with
    | true =>
      show ∀ s H0 C cl fp, tE (Blk X scope s H0 C cl fp) elt σ4 w5.H _
      intro s1 H1 C1 cl1 fp1
      obtain ⟨v, hv⟩ := Option.isSome_iff_exists.mp hb.symm
      refine he v hv s1 H1 C1 cl1 fp1 w2.ct w5 σ4 _ b5 fun u x6 w6 z6 b6 l6 r6 ⟨e6, e7⟩ => ?_
      subst e6
      have l26 := l25.trans l6
      obtain ⟨as6, hD6⟩ := as2.on b2 hD2 b6
      refine ⟨v, S, n, Dp_int r6, hD6, by show n + 1 < 4096; omega, ⟨w6.rho, w6.S, upd w6.H D (SetO X.w D (fun j => S j || decide (j = v)) (if S v = true then n else n + 1))⟩, _, _, (back b6 l26 e7).aside as6, (l2.trans l26).trans le_aside, rfl, ⟨as6.nr, as6.nS, as6.nc⟩, upd_same, ?_, fun k => ?_⟩
      · split <;> omega
      · rw [List.take_add_one, hf, hv, List.filterMap_append, Bool.or_eq_true, hS k, decide_eq_true_eq, List.mem_append]
        simp
    | false =>
      show ∃ w' S n, _
      obtain ⟨as5, hD5⟩ := as2.on b2 hD2 b5
      refine ⟨w5, S, n, back b5 l25 e5, l2.trans l25, rfl, as5, hD5, by omega, fun k => ?_⟩
      have hn0 : fs[i] = none := by
        cases e : fs[i] with
        | none => rfl
        | some d =>
          rw [e] at hb
          cases hb
      rw [hS k, List.take_add_one, hf, hn0, List.filterMap_append]
      simp
  · have e : i = ys.length := by omega
    subst e
    refine .inl ⟨dw.stops c w2 _ _ bw l2 hG, D, S, n, rfl, hD2, by omega, fun ms q h1 h2 _ hq => ?_⟩
    have e2 : ms = usort (fs.filterMap _root_.id) := usort_eq h1 fun k => by
      rw [h2 k, hS k, hl, List.take_of_length_le (Nat.le_refl _)]
    rw [e2]
    exact hk _ z1 w2 b2 (l1.trans l2) hP q hq
theorem newInts {K : PySem.W.Frag} {c : Ct} {w : Wd} {σ : St} {k : VK} {ms : List Int} (b : B K c w σ z) (hk : Cont K c w σ Q k) (h : Q (.sh (.list (ms.map .int))) z) : ∀ q, w.H q = none → k (.ref q) (upd w.H q (.lst (ms.map V.int))) := new_lstF b (DqAll_ints ms) hk h
theorem newIntsO {K : PySem.W.Frag} {c : Ct} {w : Wd} {σ : St} {k : VK} {ms : List Int} (b : B K c w σ z) (hk : Cont K c w σ Q k) (h : Q (.ob z.ob.length) ⟨z.sl, z.ob ++ [.lst ((ms.map PyData.int).map .sh)]⟩) : ∀ q, w.H q = none → k (.ref q) (upd w.H q (.lst (ms.map V.int))) := new_lst b (dp_allSh (DqAll_ints ms)) hk h
theorem we_sortSc {P : List Int → Z → Prop} (hb : Bi X "sorted" "sorted") (hN : X.N.Nodup) (ok : BlkOk X.N X.env.scope scope own) (hg : ∀ s H C cl fp, PG (Blk X scope s H C cl fp) tg g) (hc : X.calm = true)
    (hP : ∀ ms z1, P ms z1 → Q (.sh (.list (ms.map .int))) z1 ∨ Q (.ob z1.ob.length) ⟨z1.sl, z1.ob ++ [.lst ((ms.map PyData.int).map .sh)]⟩)
    (h : WI X tg iter z (ScD X elt t scope (own.map (·.2)) g P)) (hs : ∀ x, foldedSetIterable iter X.env x = pure x := by intro _; rfl)
    (he : starEach [.SetComp elt [⟨tg, iter, [t], 0⟩] scope pos'] X.env = (false, eval (.SetComp elt [⟨tg, iter, [t], 0⟩] scope pos') X.env) :: starEach [] X.env := by rfl) (hpl : (backTo pos (starEach [] X.env)).any (·.1) = false := by rfl) :
    WE X (.Call (.Name "sorted" p) [.SetComp elt [⟨tg, iter, [t], 0⟩] scope pos'] [] pos) z Q := by
  intro c w σ k bb hk
  have pt : ∀ s H C cl fp, PTs (Blk X scope s H C cl fp) [t] (fun σ H Q => ∀ s H0 C cl fp, tTs (Blk X scope s H0 C cl fp) [t] σ H Q) := fun s H C cl fp => ⟨fun pins s1 σ H1 Q I h => ptsB.run pins s1 σ H1 Q I (h s H C cl fp)⟩
  have pe : ∀ s H C cl fp, PE (Blk X scope s H C cl fp) elt (fun σ H Q => ∀ s H0 C cl fp, tE (Blk X scope s H0 C cl fp) elt σ H Q) := fun s H C cl fp => ⟨fun pins s1 σ H1 Q I h => h s H C cl fp pins s1 I⟩
  refine tE_of (pe_callB (cr_sortedSet hc) hb.g.g hb.m hb.v (pa_cons (pe_scI hc hN piB ok hg pt pe hs) pa_nil he) hb.g.n hb.g.d he hpl) ?_
  exact sc_ok hc bb h fun ms z1 w1 b1 l1 hp => by
    rcases hP ms z1 hp with q | q
    · exact newInts b1 (hk.le l1) q
    · exact newIntsO b1 (hk.le l1) q
/-- set(xs), xs a list of ints -/
theorem cr_setL (hc : X.calm = true) : CallR X (.type "set") (fun xs H Q => ∃ (a : Addr) (ns : List Int), xs = [.ref a] ∧ SqL X.K H a (ns.map V.int) ∧ ns.length < 4000 ∧ ∀ p n, H p = none → n ≤ ns.length → Q (.ref p) (upd H p (SetO X.w p (fun j => decide (j ∈ ns)) n))) := by
  intro pins s σ H xs us Q I r h
  obtain ⟨a, ns, rfl, hs, hl, q⟩ := h
  obtain ⟨u, rfl, ru⟩ := vals1 r
  cases ru
  obtain ⟨its, rv, hp, _⟩ := I.list hs
  have hi : IntsAre its.toArray.toList ns := intsAre_of rv
  refine call_set_listI ns (I.ok.hd hc) hp.isList hi (by show ns.length + 1 < 4096; omega) fun h' tk c R hc' keep => ?_
  refine ⟨.ref _, upd H s.heap.objs.size (SetO X.w s.heap.objs.size (fun j => decide (j ∈ ns)) c), I.laid (t' := tk) (fun b u e => keep b u e) (Nat.le_refl _) (setO_new R), rfl, q _ _ (I.hok.fresh (Nat.le_refl _)) hc'⟩
theorem we_sortSet {e : Expr} {p2 pos2 : Pos} (hb : Bi X "sorted" "sorted") (ht : Bt X "set" "set") (hc : X.calm = true) (h : WE X e z fun x z1 => ∃ ns : List Int, x = .sh (.list (ns.map .int)) ∧ ns.length < 64 ∧ Q (.sh (.list ((usort ns).map .int))) z1)
    (he : starEach [.Call (.Name "set" p2) [e] [] pos2] X.env = (false, eval (.Call (.Name "set" p2) [e] [] pos2) X.env) :: starEach [] X.env := by rfl) (he2 : starEach [e] X.env = (false, eval e X.env) :: starEach [] X.env := by rfl) (hpl : (backTo pos (starEach [] X.env)).any (·.1) = false := by rfl) (hpl2 : (backTo pos2 (starEach [] X.env)).any (·.1) = false := by rfl) :
    WE X (.Call (.Name "sorted" p) [.Call (.Name "set" p2) [e] [] pos2] [] pos) z Q := fun c w σ k bb hk =>
  tE_of (pe_callB (cr_sortedSet hc) hb.g.g hb.m hb.v (pa_cons (pe_callTy (cr_setL hc) ht.g.g ht.m ht.v (pa_cons peB pa_nil he2) ht.g.n ht.g.d he2 hpl2) pa_nil he) hb.g.n hb.g.d he hpl)
    (h c w σ _ bb fun v x w1 z1 b1 l1 r1 ⟨ns, e1, hl, hq⟩ => by
      subst e1
      obtain ⟨a, xs, rfl, hr, s1⟩ := Dp_lstI r1
      have ex := ints_v s1
      subst ex
      refine ⟨a, ns, rfl, .inl (Same.rd b1.same hr), by omega, fun D n hD hn => ?_⟩
      have as := b1.asideNew hD
      have b2 := b1.aside (o := SetO X.w D (fun j => decide (j ∈ ns)) n) as
      refine ⟨D, _, n, rfl, upd_same, by omega, fun ms q h1 h2 _ hq2 => ?_⟩
      have e2 : ms = usort ns := usort_eq h1 fun k => by rw [h2 k, decide_eq_true_eq]
      rw [e2]
      exact newInts b2 (hk.le (l1.trans le_aside)) hq q hq2)
end
end Dl

namespace Dl
open PySem PySem.Spec L2
open PyProof.Rows hiding St

/-! ### sorted({..}): a list that stays, a list of the store -/
def SortF (Q : Sl → Z → Prop) : List Int → Z → Prop := fun ms z1 => Q (.sh (.list (ms.map .int))) z1
def SortO (Q : Sl → Z → Prop) : List Int → Z → Prop := fun ms z1 => Q (.ob z1.ob.length) ⟨z1.sl, z1.ob ++ [.lst ((ms.map PyData.int).map .sh)]⟩
section
variable {X : Cx} {tg iter elt t : Expr} {scope : Scope} {z : Z} {pos pos' p : Pos} {own : List (Str × Nat)} {g : TG} {Q : Sl → Z → Prop}
theorem we_sortScO (hb : Bi X "sorted" "sorted") (hN : X.N.Nodup) (ok : BlkOk X.N X.env.scope scope own) (hg : ∀ s H C cl fp, PG (Blk X scope s H C cl fp) tg g) (hc : X.calm = true) (h : WI X tg iter z (ScD X elt t scope (own.map (·.2)) g (SortO Q))) (hs : ∀ x, foldedSetIterable iter X.env x = pure x := by intro _; rfl)
    (he : starEach [.SetComp elt [⟨tg, iter, [t], 0⟩] scope pos'] X.env = (false, eval (.SetComp elt [⟨tg, iter, [t], 0⟩] scope pos') X.env) :: starEach [] X.env := by rfl) (hpl : (backTo pos (starEach [] X.env)).any (·.1) = false := by rfl) :
    WE X (.Call (.Name "sorted" p) [.SetComp elt [⟨tg, iter, [t], 0⟩] scope pos'] [] pos) z Q := we_sortSc hb hN ok hg hc (fun _ _ h => .inr h) h hs he hpl
theorem we_sortScF (hb : Bi X "sorted" "sorted") (hN : X.N.Nodup) (ok : BlkOk X.N X.env.scope scope own) (hg : ∀ s H C cl fp, PG (Blk X scope s H C cl fp) tg g) (hc : X.calm = true) (h : WI X tg iter z (ScD X elt t scope (own.map (·.2)) g (SortF Q))) (hs : ∀ x, foldedSetIterable iter X.env x = pure x := by intro _; rfl)
    (he : starEach [.SetComp elt [⟨tg, iter, [t], 0⟩] scope pos'] X.env = (false, eval (.SetComp elt [⟨tg, iter, [t], 0⟩] scope pos') X.env) :: starEach [] X.env := by rfl) (hpl : (backTo pos (starEach [] X.env)).any (·.1) = false := by rfl) :
    WE X (.Call (.Name "sorted" p) [.SetComp elt [⟨tg, iter, [t], 0⟩] scope pos'] [] pos) z Q := we_sortSc hb hN ok hg hc (fun _ _ h => .inl h) h hs he hpl
end
/-! ### what is only looked at: the store's lists lent as data -/
def viewSl (om : List OO) : Sl → Sl
  | .sh d => .sh d
  | .no => .no
  | .ob i => match om[i]? with
    | some (.lst xs) => (match allSh xs with
      | some ds => .sh (.list ds)
      | none => .no)
    | _ => .no
section
variable {K : PySem.W.Frag} {c : Ct} {w w' : Wd} {σ : St} {z z' : Z}
theorem Sv.view (b : B K c w σ z) {o : Option V} : ∀ {x : Sl}, Sv K w o x → Sv K ⟨[], w.H, w.H⟩ o (viewSl z.ob x)
  | .no, _ => .inl rfl
  | .sh d, h => by
    rcases h with h | ⟨v, e, h⟩
    · exact .inl h
    · exact .inr ⟨v, e, Dp_mono b.same h⟩
  | .ob i, h => by
    rcases h with h | ⟨v, e, p, hp, rfl⟩
    · cases h
    · show Sv K ⟨[], w.H, w.H⟩ o (match z.ob[i]? with | some (.lst xs) => (match allSh xs with | some ds => .sh (.list ds) | none => .no) | _ => .no)
      cases e1 : z.ob[i]? with
      | none => exact .inl rfl
      | some oo =>
        cases oo with
        | gone => exact .inl rfl
        | lst xs =>
          show Sv K ⟨[], w.H, w.H⟩ o (match allSh xs with | some ds => .sh (.list ds) | none => .no)
          cases e2 : allSh xs with
          | none => exact .inl rfl
          | some ds =>
            obtain ⟨_, vs, hH, hv⟩ := b.ob i _ p e1 hp
            exact .inr ⟨.ref p, e, Dq.lst (.inl hH) (DpAll_mono b.same (allSh_dp e2 hv))⟩
theorem paired_map {α β γ : Type} {F : α → β → Prop} {G : α → γ → Prop} {f : β → γ} (h : ∀ a b, F a b → G a (f b)) : ∀ {l₁ : List α} {l₂ : List β}, Paired F l₁ l₂ → Paired G l₁ (l₂.map f)
  | _, _, .nil => .nil
  | _, _, .cons q t => .cons (h _ _ q) (paired_map h t)
theorem B.lend (b : B K c w σ z) : B K ⟨w.H, w.H, []⟩ ⟨[], w.H, w.H⟩ σ ⟨z.sl.map (viewSl z.ob), []⟩ := ⟨Same.refl _, rfl, by simp, by simp, paired_map (fun _ _ q => q.view b) b.sl, fun i o p h => by simp at h, fun i p h => by simp at h, fun _ _ h _ => h, fun a o h => .inl (by
  show w.H a ≠ none
  have h : w.H a = some o := h
  rw [h]
  simp), Same.refl _, fun i p _ h => by simp at h⟩
theorem B.unlend (b : B K c w σ z) (b' : B K ⟨w.H, w.H, []⟩ w' σ z') : B K c ⟨w.rho, w.S, w'.H⟩ σ z ∧ w.Le ⟨w.rho, w.S, w'.H⟩ := by
  have l : w.Le ⟨w.rho, w.S, w'.H⟩ := ⟨Same.refl _, fun _ _ h => h⟩
  have hfr : ∀ a o, w.H a = some o → w'.H a = some o := fun a o h => b'.fr a o h (by simp)
  have keep : ∀ p ∈ w.rho, w'.H p = w.H p := fun p hp => by
    cases e : w.H p with
    | none => exact absurd e (b.tr p hp)
    | some o => exact hfr p o e
  refine ⟨⟨fun a o h => hfr a o (b.same a o h), b.len, b.nd, fun p hp => ?_, b.sl.mono fun _ _ q => q.mono l, fun i o p h1 h2 => (b.ob i o p h1 h2).mono l (fun e => e) (keep p (List.mem_of_getElem? h2)), b.pre, fun a o h hn => hfr a o (b.fr a o h hn), b.nw, b.st, b.nr⟩, l⟩
  show w'.H p ≠ none
  rw [keep p hp]
  exact b.tr p hp
end
theorem wt_lend {X : Cx} {e : Expr} {z : Z} {P : Bool → Z → Prop} (h : WT X e ⟨z.sl.map (viewSl z.ob), []⟩ fun b _ => P b z) : WT X e z P := fun c w σ k b hk =>
  h ⟨w.H, w.H, []⟩ ⟨[], w.H, w.H⟩ σ k b.lend fun d w' z' b' _ q => by
    obtain ⟨b2, l2⟩ := b.unlend b'
    exact hk d ⟨w.rho, w.S, w'.H⟩ z b2 l2 q
def flatD : PyData → Bool
  | .list _ => false
  | .tuple _ => false
  | .dict _ => false
  | _ => true
theorem flat_dq {K : PySem.W.Frag} {H H' : Hp} {v : V} {d : PyData} (f : flatD d = true) (h : Dq K H v d) : Dq K H' v d := by
  cases h with
  | non => exact .non
  | bl b => exact .bl b
  | int i => exact .int i
  | str x => exact .str x
  | lst _ _ => cases f
  | tup _ _ => cases f
theorem we_lend {X : Cx} {e : Expr} {z : Z} {Q : Sl → Z → Prop} (h : WE X e ⟨z.sl.map (viewSl z.ob), []⟩ fun x _ => ∃ d, x = .sh d ∧ flatD d = true ∧ Q (.sh d) z) : WE X e z Q := fun c w σ k b hk =>
  h ⟨w.H, w.H, []⟩ ⟨[], w.H, w.H⟩ σ k b.lend fun v x w' z' b' _ r ⟨d, e1, hf, q⟩ => by
    subst e1
    obtain ⟨b2, l2⟩ := b.unlend b'
    exact hk v (.sh d) ⟨w.rho, w.S, w'.H⟩ z b2 l2 (vsh (flat_dq hf r)) q
end Dl

namespace Dl
open PySem PySem.Spec L2
open PyProof.Rows hiding St

/-! ### any def that is handed data alone -/
section
variable {X : Cx} {z : Z} {Q : Sl → Z → Prop}
theorem call_gen {R : Rl} {c : Ct} {w : Wd} {σ : St} {kk : VK} {vs : List V} {xs : List Sl} {ds : List PyData} {Q' : Sl → List OO → Prop} {E : XK} (n : Nat) (b : B X.K c w σ z) (hv : Paired (Vl X.K w) vs xs) (hn : xs.length = n) (hx : allSh xs = some ds) (hR : R xs [] Q')
    (hQ : ∀ y om, Q' y om → Q (mpS z.ob.length y) ⟨z.sl, z.ob ++ om.map (mpO z.ob.length)⟩) (hk : Cont X.K c w σ Q kk) : spD X.K n R (vs ++ []) w.H kk E := by
  rw [List.append_nil]
  refine ⟨by rw [hv.length]; exact hn, ⟨[], w.S, w.H⟩, xs, [], Q', rfl, b.ent0, ?_, hR, fun y om' v w' hq b' rv => ?_⟩
  · rw [allSh_eq hx]
    exact dp_allSh (w := ⟨[], w.S, w.H⟩) (allSh_dp (w := w) hx hv)
  · obtain ⟨b2, l⟩ := b.back0 b'
    exact hk v (mpS z.ob.length y) ⟨w.rho ++ w'.rho, w'.S, w'.H⟩ _ b2 l (Vl.mp (z := z) b.len rv rfl) (hQ y om' hq)
end
section
variable {X : Cx} {x : Str} {p pos : Pos} {e : Expr} {es : List Expr} {z : Z} {Q : Sl → Z → Prop} {k kk : Nat} {ps : List Str} {R : Rl}
theorem we_cG (c : Cf X x k ps R) (hr : Room kk X.A) (hle : k ≤ kk) (h : WA X (e :: es) z fun xs z1 => ∃ ds Q', allSh xs = some ds ∧ R xs [] Q' ∧ xs.length = ps.length ∧ ∀ y om, Q' y om → Q (mpS z1.ob.length y) ⟨z1.sl, z1.ob ++ om.map (mpO z1.ob.length)⟩)
    (he : starEach (e :: es) X.env = (false, eval e X.env) :: starEach es X.env) (hpl : (backTo pos (starEach es X.env)).any (·.1) = false) : WE X (.Call (.Name x p) (e :: es) [] pos) z Q := by
  obtain ⟨f, fd, G, hm, hk, hb⟩ := c.d.ex
  exact fun ct w σ kk bb hkk => tE_of (pe_call G (hr.mono hle) c.g.g hm hk hb .nil pass0x paB c.g.d he hpl) (h ct w σ _ bb fun vs xs w1 z1 b1 l1 hv ⟨ds, Q', hx, hR, hn, hQ⟩ => call_gen ps.length b1 hv hn hx hR hQ (hkk.le l1))
end
theorem set_end {α : Type} (l : List α) (a b : α) : (l ++ [a]).set l.length b = l ++ [b] := by simp
theorem get_end {α : Type} (l : List α) (a : α) : (l ++ [a])[l.length]? = some a := by simp
end Dl

namespace Dl
open PySem PySem.Spec L2
open PyProof.Rows hiding St

/-! ### what is written of the heap, without its lists -/
def seqL : Obj → Bool
  | ⟨.type c, _, .seq _ _, _⟩ => decide (c = "list")
  | _ => false
def thinB (K : PySem.W.Frag) (a : Addr) : Bool := match K.lookup a with
  | some o => !seqL o
  | none => true
def thin (K : PySem.W.Frag) : PySem.W.Frag := K.filter fun p => thinB K p.1
theorem lookup_filter {β : Type} (g : Addr → Bool) (a : Addr) : ∀ l : List (Addr × β), (l.filter fun p => g p.1).lookup a = if g a then l.lookup a else none
  | [] => by simp
  | (b, o) :: l => by
    rw [List.filter_cons, List.lookup_cons]
    by_cases e : (a == b) = true
    · have e' : a = b := by simpa using e
      subst e'
      by_cases hg : g a = true
      · simp [hg]
      · simp only [hg]
        rw [if_neg (by simp), lookup_filter g a l, if_neg hg]
        simp
    · by_cases hg : g b = true
      · simp only [hg, if_true]
        rw [List.lookup_cons]
        simp only [e]
        exact lookup_filter g a l
      · simp only [hg, e]
        exact lookup_filter g a l
section
variable {K : PySem.W.Frag} {a : Addr} {o : Obj}
theorem thin_lookup (h : K.lookup a = some o) (hs : seqL o = false) : (thin K).lookup a = some o := by
  unfold thin
  rw [lookup_filter (thinB K) a K, h, if_pos]
  unfold thinB
  rw [h]
  simp [hs]
theorem thin_sub (h : (thin K).lookup a = some o) : K.lookup a = some o ∧ seqL o = false := by
  unfold thin at h
  rw [lookup_filter (thinB K) a K] at h
  split at h
  · rename_i hg
    refine ⟨h, ?_⟩
    unfold thinB at hg
    rw [h] at hg
    simpa using hg
  · cases h
theorem thin_in {h : Heap} (X : K.In h) : (thin K).In h := fun a o e => X a o (thin_sub e).1
theorem thin_code {cd : Value} {q : Str} (h : PySem.W.codeIn K cd q = true) : PySem.W.codeIn (thin K) cd q = true := by
  unfold PySem.W.codeIn at h ⊢
  cases cd with
  | ref c =>
    cases e : K.lookup c with
    | none =>
      simp only [e] at h
      cases h
    | some o =>
      obtain ⟨oc, od, dt, os⟩ := o
      cases dt with
      | fields vs =>
        have e2 := thin_lookup e (by cases oc <;> rfl)
        simp only [e] at h
        simp only [e2]
        exact h
      | _ =>
        simp only [e] at h
        cases h
  | _ => cases h
theorem thin_fun {x qual : Str} {st : Stmt} {kws : List (Str × V)} {f : Addr} {fd : FuncData} (F : FunD K x qual (defArgs st) (defBody st) (defScope st) [] kws f fd) : Fun (thin K) x qual st f fd := by
  obtain ⟨oc, od, dV, kV, doc, pm, an, cdv, ct, osl, rfl, lk, hcd, hD, hK⟩ := F.ex
  have lk2 := thin_lookup lk (by cases oc <;> rfl)
  refine ⟨⟨oc, od, kV, doc, pm, an, cdv, ct, osl, ?_, lk2, thin_code hcd⟩, ?_⟩
  · rcases hD with ⟨_, rfl⟩ | ⟨e, _⟩
    · rfl
    · exact absurd rfl e
  · unfold PySem.W.keepIn
    simp only [lk2]
theorem thin_sq {H : Hp} {xs : List V} (h : SqL (thin K) H a xs) : Rd H a (.lst xs) := by
  rcases h with h | ⟨o, its, n, hk, hc, hd, hs, _⟩
  · exact h
  · have h2 := (thin_sub hk).2
    obtain ⟨oc, od, dt, os⟩ := o
    cases hc
    cases hs
    exact absurd h2 (by simp [seqL])
theorem only_thin {H : Hp} {xs : List V} (h : SqL K H a xs) (hn : thinB K a = true) : Rd H a (.lst xs) := by
  rcases h with h | ⟨o, its, n, hk, hc, hd, hs, _⟩
  · exact h
  · unfold thinB at hn
    rw [hk] at hn
    obtain ⟨oc, od, dt, os⟩ := o
    cases hc
    cases hs
    exact absurd hn (by simp [seqL])
end
theorem dqAll_ints {K : PySem.W.Frag} {H : Hp} : ∀ ns : List Int, DqAll K H (ns.map V.int) (ns.map PyData.int)
  | [] => .nil
  | n :: ns => .cons (.int n) (dqAll_ints ns)
/-- a law's promise at the script -/
theorem sp_script {K : PySem.W.Frag} {H : Hp} {a : Addr} {ns : List Int} {F : List PyData → PyData → Prop} (h : SqL (thin K) H a (ns.map V.int)) (hF : F [.list (ns.map .int)] (.bool true)) : spD (thin K) 1 (PureR F) [.ref a] H (fun v _ => v = .bl true) fun _ _ _ => False := by
  refine ⟨rfl, ⟨[], H, H⟩, [.sh (.list (ns.map .int))], [], fun y om => y = .sh (.bool true) ∧ om = [], rfl, ?_, .cons ?_ .nil, ⟨_, _, rfl, rfl, hF, rfl, rfl⟩, ?_⟩
  · exact ⟨Same.refl _, rfl, by simp, by simp, .nil, fun i o p h => by simp at h, fun i p h => h, fun _ _ h _ => h, fun a o h => .inl (by
      show H a ≠ none
      have h : H a = some o := h
      rw [h]
      simp), Same.refl _, fun i p _ h => by
      have h : ([] : List Addr)[i]? = some p := h
      simp at h⟩
  · exact Dq.lst (thin_sq h) (dqAll_ints ns)
  · rintro y om' v w' ⟨rfl, rfl⟩ _ r
    have r : Dq (thin K) w'.S v (.bool true) := r
    cases r
    rfl
end Dl

set_option hygiene false
/-! one step of the walk -/
local macro_rules | `(tactic| walk_at "name") => `(tactic| first
  | ((with_reducible refine' Dl.we_nm (by assumption) ?sd ?sd2 ?_); (case sd => exact rfl); (case sd2 => exact rfl))
  | ((with_reducible refine Dl.we_gint (Dl.Gn.g (by assumption)) (by assumption) ?_ (Dl.Gn.d (by assumption)))))
local macro_rules | `(tactic| walk_at "call") => `(tactic| first
  | ((with_reducible refine Dl.we_cX (by assumption) (by assumption) ?sd ?_ ?sd2 ?sd3); (case sd => omega); (case sd2 => exact rfl); (case sd3 => exact rfl))
  | ((with_reducible refine Dl.we_cP (by assumption) (by assumption) ?sd ?_ ?sd2 ?sd3); (case sd => omega); (case sd2 => exact rfl); (case sd3 => exact rfl))
  | ((with_reducible refine Dl.we_cN (by assumption) (by assumption) ?sd ?_ ?sd2 ?sd3); (case sd => omega); (case sd2 => exact rfl); (case sd3 => exact rfl)))
local macro_rules | `(tactic| walk_at "bi") => `(tactic| first
  | ((with_reducible refine Dl.we_isi' (by assumption) (by assumption) ?_ ?sd2 ?sd3 ?sd4); (case sd2 => exact rfl); (case sd3 => exact rfl); (case sd4 => exact rfl))
  | ((with_reducible refine Dl.we_isi2' (by assumption) (by assumption) (by assumption) ?_ ?sd2 ?sd3 ?sd4 ?sd5 ?sd6); (case sd2 => exact rfl); (case sd3 => exact rfl); (case sd4 => exact rfl); (case sd5 => exact rfl); (case sd6 => exact rfl))
  | ((with_reducible refine Dl.we_bi' (by assumption) ?_ ?sd2 ?sd3); (case sd2 => exact rfl); (case sd3 => exact rfl))
  | ((with_reducible refine Dl.we_ty' (by assumption) ?_ ?sd2 ?sd3); (case sd2 => exact rfl); (case sd3 => exact rfl)))
local macro_rules | `(tactic| walk_at "we") => `(tactic| first
  | ((with_reducible show Dl.WE _ (Expr.Name _ _) _ _); walk_at "name")
  | ((with_reducible show Dl.WE _ (Expr.Constant (Const.int _) _ _) _ _); refine Dl.we_int ?_)
  | ((with_reducible show Dl.WE _ (Expr.Constant (Const.str _) _ _) _ _); refine Dl.we_str ?_)
  | ((with_reducible show Dl.WE _ (Expr.Constant (Const.bool _) _ _) _ _); refine Dl.we_bl ?_)
  | ((with_reducible show Dl.WE _ (Expr.Constant Const.none _ _) _ _); refine Dl.we_non ?_)
  | ((with_reducible show Dl.WE _ (Expr.BinOp _ _ _ _) _ _); refine Dl.we_bin ?_)
  | ((with_reducible show Dl.WE _ (Expr.Subscript _ (Expr.Slice _ _ none _) _) _ _); refine Dl.we_sl ?_)
  | ((with_reducible show Dl.WE _ (Expr.Subscript _ (Expr.Slice _ _ (some _) _) _) _ _); refine Dl.we_sl3 ?_)
  | ((with_reducible show Dl.WE _ (Expr.Subscript _ _ _) _ _); refine Dl.we_ix ?_)
  | ((with_reducible show Dl.WE _ (Expr.Compare _ _ _ _) _ _); refine Dl.we_cmp ?_)
  | ((with_reducible show Dl.WE _ (Expr.UnaryOp UnaryOp.Not _ _) _ _); refine Dl.we_not ?_)
  | ((with_reducible show Dl.WE _ (Expr.UnaryOp _ _ _) _ _); refine Dl.we_un ?_)
  | ((with_reducible show Dl.WE _ (Expr.IfExp _ _ _ _) _ _); refine Dl.we_ifx ?_)
  | ((with_reducible show Dl.WE _ (Expr.BoolOp _ [_] _) _ _); refine Dl.we_one ?_)
  | ((with_reducible show Dl.WE _ (Expr.BoolOp BoolOp.And _ _) _ _); refine Dl.we_and ?_)
  | ((with_reducible show Dl.WE _ (Expr.BoolOp BoolOp.Or _ _) _ _); refine Dl.we_or ?_)
  | ((with_reducible show Dl.WE _ (Expr.Tuple _ _ _) _ _); refine Dl.we_tup ?_)
  | ((with_reducible show Dl.WE _ (Expr.Call (Expr.Name _ _) _ _ _) _ _); first | walk_at "call" | walk_at "bi")
  | ((with_reducible show Dl.WE _ (Expr.Call (Expr.Attribute _ _ _) _ _ _) _ _); first
      | ((with_reducible show Dl.WE _ (Expr.Call (Expr.Attribute _ (Str.ofString "append") _) _ _ _) _ _); refine Dl.we_mO PySem.F.slot_list_append PySem.F.type_list_append ?_)
      | ((with_reducible show Dl.WE _ (Expr.Call (Expr.Attribute _ (Str.ofString "extend") _) _ _ _) _ _); refine Dl.we_mO PySem.F.slot_list_extend PySem.F.type_list_extend ?_)
      | ((with_reducible show Dl.WE _ (Expr.Call (Expr.Attribute _ (Str.ofString "pop") _) _ _ _) _ _); refine Dl.we_mO0 PySem.F.slot_list_pop PySem.F.type_list_pop ?_)
      | ((with_reducible show Dl.WE _ (Expr.Call (Expr.Attribute _ (Str.ofString "reverse") _) _ _ _) _ _); refine Dl.we_mO0 PySem.F.slot_list_reverse PySem.F.type_list_reverse ?_)))
local macro_rules | `(tactic| walk_at "wt") => `(tactic| first
  | ((with_reducible show Dl.WT _ (Expr.Compare _ _ _ _) _ _); refine Dl.wt_cmp ?_)
  | ((with_reducible show Dl.WT _ (Expr.UnaryOp UnaryOp.Not _ _) _ _); refine Dl.wt_not ?_)
  | ((with_reducible show Dl.WT _ (Expr.BoolOp _ _ _) _ _); refine Dl.wt_ww ?_)
  | ((with_reducible show Dl.WT _ _ _ _); refine Dl.wt_val ?_))
local macro_rules | `(tactic| walk_at "ww") => `(tactic| first
  | ((with_reducible show Dl.WW _ (Expr.BoolOp BoolOp.And [_] _) _ _); refine Dl.ww_and1 ?_)
  | ((with_reducible show Dl.WW _ (Expr.BoolOp BoolOp.Or [_] _) _ _); refine Dl.ww_or1 ?_)
  | ((with_reducible show Dl.WW _ (Expr.BoolOp BoolOp.And _ _) _ _); refine Dl.ww_and ?_)
  | ((with_reducible show Dl.WW _ (Expr.BoolOp BoolOp.Or _ _) _ _); refine Dl.ww_or ?_))
local macro_rules | `(tactic| walk_at "set") => `(tactic| ((with_reducible refine Dl.w1_ns (by assumption) ?sd ?_); (case sd => exact rfl)))
local macro_rules | `(tactic| walk_at "w1") => `(tactic| first
  | ((with_reducible show Dl.W1 _ (Stmt.If _ _ _ _) _ _); refine Dl.w1_if ?_)
  | ((with_reducible show Dl.W1 _ (Stmt.Return (some _) _) _ _); refine Dl.w1_ret ?_)
  | ((with_reducible show Dl.W1 _ (Stmt.Return none _) _ _); refine Dl.w1_retN ?_)
  | ((with_reducible show Dl.W1 _ (Stmt.Pass _) _ _); refine Dl.w1_pass ?_)
  | ((with_reducible show Dl.W1 _ (Stmt.Break _) _ _); refine Dl.w1_break ?_)
  | ((with_reducible show Dl.W1 _ (Stmt.Continue _) _ _); refine Dl.w1_cont ?_)
  | ((with_reducible show Dl.W1 _ (Stmt.Expr _ _) _ _); refine Dl.w1_expr ?_)
  | ((with_reducible show Dl.W1 _ (Stmt.Assign [Expr.Name _ _] _ _) _ _); walk_at "set")
  | ((with_reducible show Dl.W1 _ (Stmt.Assign [Expr.Subscript _ _ _] _ _) _ _); refine Dl.w1_setIx ?_))
local macro_rules | `(tactic| walk_at "side") => `(tactic| first | assumption | omega | (simp only [List.length_map]; omega) | (refine ⟨?_, ?_⟩ <;> omega) | exact Or.inl ⟨by omega, by omega⟩ | exact Or.inr ⟨by omega, by omega⟩ | exact ⟨by omega, by omega, by omega⟩ | decide | exact ⟨by decide, by decide, by decide⟩ | exact Or.inr ⟨by split <;> omega, by split <;> omega⟩ | (split <;> omega) | (simp; done) | (simp; omega) | walk_at "side2")
local macro_rules | `(tactic| walk_at "side2") => `(tactic| fail "side")
local macro_rules | `(tactic| walk_at "rd") => `(tactic| first
  | with_reducible refine Dl.rd_addI ?_ | with_reducible refine Dl.rd_subI ?_ | ((with_reducible refine Dl.rd_mulI ?sd ?_); (case sd => walk_at "side")) | ((with_reducible refine Dl.rd_modI ?sd ?_); (case sd => walk_at "side")) | ((with_reducible refine Dl.rd_fdivI ?sd ?_); (case sd => walk_at "side")) | ((with_reducible refine Dl.rd_powI ?sd ?_); (case sd => walk_at "side"))
  | with_reducible refine Dl.rd_gtI ?_ | with_reducible refine Dl.rd_ltI ?_ | with_reducible refine Dl.rd_leI ?_ | with_reducible refine Dl.rd_geI ?_ | with_reducible refine Dl.rd_eqI ?_ | with_reducible refine Dl.rd_neI ?_
  | with_reducible refine Dl.rd_eqN ?_ | with_reducible refine Dl.rd_inI ?_ | with_reducible refine Dl.rd_notInI ?_
  | with_reducible refine Dl.rd_eqB ?_ | with_reducible refine Dl.rd_neB ?_ | with_reducible refine Dl.rd_eqS ?_ | with_reducible refine Dl.rd_neS ?_ | with_reducible refine Dl.rd_isN ?_ | with_reducible refine Dl.rd_notN ?_
  | ((with_reducible refine Dl.rd_addS ?sd ?_); (case sd => walk_at "side")) | ((with_reducible refine Dl.rd_catF ?sd ?_); (case sd => walk_at "side")) | ((with_reducible refine Dl.rd_repF ?sd ?sd2 ?sd3 ?_); (case sd => walk_at "side"); (case sd2 => walk_at "side"); (case sd3 => walk_at "side")))
local macro_rules | `(tactic| walk_at "id") => `(tactic| first
  | ((with_reducible refine' Dl.id_O ?sd ?sd2 ?_); (case sd => exact rfl); (case sd2 => exact rfl))
  | ((with_reducible refine' Dl.id_L ?sd ?_); (case sd => exact rfl))
  | ((with_reducible refine' Dl.id_T ?sd ?_); (case sd => exact rfl)))
local macro_rules | `(tactic| walk_at "cd") => `(tactic| first
  | with_reducible refine Dl.cd_lenL ?_ | with_reducible refine Dl.cd_lenT ?_ | ((with_reducible refine' Dl.cd_lenO ?sd ?_); (case sd => exact rfl)) | ((with_reducible refine Dl.cd_lenS ?sd ?_); (case sd => walk_at "side")) | with_reducible refine Dl.cd_abs ?_ | with_reducible refine Dl.cd_max ?_ (Dl.Good.calm (by assumption)) | with_reducible refine Dl.cd_min ?_ (Dl.Good.calm (by assumption))
  | with_reducible refine Dl.cd_intI ?_ | with_reducible refine Dl.cd_intB ?_ | with_reducible refine Dl.cd_listL ?_ | with_reducible refine Dl.cd_listT ?_ | with_reducible refine Dl.cd_tupL ?_ | with_reducible refine Dl.cd_tupT ?_)
local macro_rules | `(tactic| walk_at "mo") => `(tactic| first
  | ((with_reducible refine' Dl.mo_append ?sd ?sd2 ?_); (case sd => exact rfl); (case sd2 => walk_at "side"))
  | ((with_reducible refine' Dl.mo_extendT ?sd ?sd2 ?_); (case sd => exact rfl); (case sd2 => walk_at "side"))
  | ((with_reducible refine' Dl.mo_extendF ?sd ?sd2 ?_); (case sd => exact rfl); (case sd2 => walk_at "side"))
  | ((with_reducible refine' Dl.mo_reverse ?sd ?_); (case sd => exact rfl)))
local macro_rules | `(tactic| walk_at "isi") => `(tactic| with_reducible first | exact Dl.isi_non_int | exact Dl.isi_non_bool | exact Dl.isi_non_str | exact Dl.isi_non_list | exact Dl.isi_non_tuple | exact Dl.isi_bool_int | exact Dl.isi_bool_bool | exact Dl.isi_bool_str | exact Dl.isi_bool_list | exact Dl.isi_bool_tuple | exact Dl.isi_int_int | exact Dl.isi_int_bool | exact Dl.isi_int_str | exact Dl.isi_int_list | exact Dl.isi_int_tuple | exact Dl.isi_str_int | exact Dl.isi_str_bool | exact Dl.isi_str_str | exact Dl.isi_str_list | exact Dl.isi_str_tuple | exact Dl.isi_list_int | exact Dl.isi_list_bool | exact Dl.isi_list_str | exact Dl.isi_list_list | exact Dl.isi_list_tuple | exact Dl.isi_tup_int | exact Dl.isi_tup_bool | exact Dl.isi_tup_str | exact Dl.isi_tup_list | exact Dl.isi_tup_tuple)
local macro_rules | `(tactic| walk_at "nz") => `(tactic| first
  | (show Dl.Seq _ _ _ (Dl.Out.nx ⟨[_], _⟩))
  | (show Dl.Seq _ _ _ (Dl.Out.nx ⟨[_, _], _⟩))
  | (show Dl.Seq _ _ _ (Dl.Out.nx ⟨[_, _, _], _⟩))
  | (show Dl.Seq _ _ _ (Dl.Out.nx ⟨[_, _, _, _], _⟩))
  | (show Dl.Seq _ _ _ (Dl.Out.nx ⟨[_, _, _, _, _], _⟩))
  | (show Dl.Seq _ _ _ (Dl.Out.nx ⟨[_, _, _, _, _, _], _⟩))
  | (show Dl.Seq _ _ _ (Dl.Out.nx ⟨[_, _, _, _, _, _, _], _⟩))
  | (show Dl.Seq _ _ _ (Dl.Out.nx ⟨[_, _, _, _, _, _, _, _], _⟩))
  | (show Dl.Seq _ _ _ (Dl.Out.nx ⟨[_, _, _, _, _, _, _, _, _], _⟩))
  | (show Dl.Seq _ _ _ (Dl.Out.nx ⟨[_, _, _, _, _, _, _, _, _, _], _⟩))
  | (show Dl.Seq _ _ _ (Dl.Out.nx ⟨[_, _, _, _, _, _, _, _, _, _, _], _⟩))
  | (show Dl.Seq _ _ _ (Dl.Out.nx ⟨[_, _, _, _, _, _, _, _, _, _, _, _], _⟩))
  | (show Dl.Seq _ _ _ (Dl.Out.nx ⟨[_, _, _, _, _, _, _, _, _, _, _, _, _], _⟩))
  | (show Dl.Seq _ _ _ (Dl.Out.nx ⟨[_, _, _, _, _, _, _, _, _, _, _, _, _, _], _⟩))
  | (show Dl.Seq _ _ _ (Dl.Out.nx ⟨[_, _, _, _, _, _, _, _, _, _, _, _, _, _, _], _⟩))
  | (show Dl.Seq _ _ _ (Dl.Out.nx ⟨[_, _, _, _, _, _, _, _, _, _, _, _, _, _, _, _], _⟩))
  | (show Dl.Seq _ _ _ (Dl.Out.nx ⟨[_, _, _, _, _, _, _, _, _, _, _, _, _, _, _, _, _], _⟩))
  | (show Dl.Seq _ _ _ (Dl.Out.nx ⟨[_, _, _, _, _, _, _, _, _, _, _, _, _, _, _, _, _, _], _⟩)))
local macro_rules | `(tactic| walk_at "nzo") => `(tactic| first
  | (show Dl.Seq _ _ _ (Dl.Out.nx ⟨_, []⟩))
  | (show Dl.Seq _ _ _ (Dl.Out.nx ⟨_, [_]⟩))
  | (show Dl.Seq _ _ _ (Dl.Out.nx ⟨_, [_, _]⟩))
  | (show Dl.Seq _ _ _ (Dl.Out.nx ⟨_, [_, _, _]⟩)))
local macro_rules | `(tactic| walk_at "e") => `(tactic| first
  | ((with_reducible show Dl.WE _ _ _ _); walk_at "we")
  | ((with_reducible show Dl.RD _ _ _ _ _ _); walk_at "rd")
  | ((with_reducible show Dl.ID _ _ _ _ _); walk_at "id")
  | ((with_reducible show Dl.WA _ (_ :: _) _ _); refine Dl.wa_cons ?_)
  | ((with_reducible show Dl.WA _ [] _ _); refine Dl.wa_nil ?_)
  | ((with_reducible show Dl.CD _ _ _ _ _); walk_at "cd")
  | ((with_reducible show Dl.UD _ _ _ _ _); refine Dl.ud_neg ?_)
  | ((with_reducible show Dl.W1 _ _ _ _); walk_at "w1")
  | ((with_reducible show Dl.WT _ _ _ _); walk_at "wt")
  | ((with_reducible show Dl.WW _ _ _ _); walk_at "ww")
  | ((with_reducible show Dl.WO _ none _ _); refine Dl.wo_none ?_)
  | ((with_reducible show Dl.WO _ (some _) _ _); refine Dl.wo_some ?_)
  | ((with_reducible show Dl.Tru _ (Dl.Sl.sh (PyData.bool _)) _); refine Dl.tru_i ?_)
  | ((with_reducible show Dl.Seq _ _ _ (Dl.Out.nx _)); first | (walk_at "nz"; (try walk_at "nzo"); refine Dl.seq_nx ?_) | refine Dl.seq_nx ?_)
  | ((with_reducible show Dl.Seq _ _ _ (Dl.Out.rt _ _)); refine Dl.seq_rt ?_)
  | ((with_reducible show Dl.Seq _ _ _ (Dl.Out.bk _)); refine Dl.seq_bk ?_)
  | ((with_reducible show Dl.Seq _ _ _ (Dl.Out.ct _)); refine Dl.seq_ct ?_)
  | ((with_reducible show Dl.JoinQ _ _ (Dl.Out.rt _ _)); refine Dl.join_rt ?_)
  | ((with_reducible show Dl.LoopQ _ _ (Dl.Out.rt _ _)); refine Dl.loop_rt ?_)
  | ((with_reducible show Dl.LoopQ _ _ (Dl.Out.bk _)); refine Dl.loop_bk ?_)
  | ((with_reducible show ∃ (a : Bool), Dl.Isi _ _ _ a ∧ _); refine ⟨_, (by walk_at "isi"), ?_⟩)
  | ((with_reducible show ∃ (a b : Bool), Dl.Isi _ _ _ a ∧ Dl.Isi _ _ _ b ∧ _); refine ⟨_, _, (by walk_at "isi"), (by walk_at "isi"), ?_⟩)
  | ((with_reducible show List.length _ ≤ 100000 ∧ _); refine ⟨by simp, ?_⟩)
  | ((with_reducible show (true = true → _) ∧ (true = false → _)); refine ⟨fun _ => ?_, fun h => Bool.noConfusion h⟩)
  | ((with_reducible show (false = true → _) ∧ (false = false → _)); refine ⟨fun h => Bool.noConfusion h, fun _ => ?_⟩)
  | ((with_reducible show (_ = true → _) ∧ (_ = false → _)); first | refine ⟨fun _ => ?_, fun h => Bool.noConfusion h⟩ | refine ⟨fun h => Bool.noConfusion h, fun _ => ?_⟩ | refine ⟨fun _ => ?_, fun h => absurd h (by decide)⟩ | refine ⟨fun h => absurd h (by decide), fun _ => ?_⟩)
  | ((with_reducible show Dl.WS _ _ _ _); first | refine Dl.ws_cons ?_ | refine Dl.ws_nil ?_)
  | ((with_reducible show ∃ (a : Nat) (b : List Dl.Sl) (c : Int) (d : Nat), _); refine ⟨_, _, _, _, rfl, rfl, rfl, rfl, ?_⟩)
  | ((with_reducible show ∃ (a : Nat) (b : List Dl.Sl), _ = Dl.Sl.ob a ∧ _); refine ⟨_, _, rfl, rfl, ?_⟩)
  | ((with_reducible show Dl.MO _ _ _ _ _ _); walk_at "mo")
  | ((with_reducible show ∃ (a : List PyData), Dl.allSh _ = some a ∧ _); refine ⟨_, rfl, ?_⟩)
  | ((with_reducible show ∃ (a : Int), _); refine ⟨_, rfl, ?_⟩))
local macro_rules | `(tactic| walk_at "d") => `(tactic| first | ((with_reducible show Dl.WE _ (Expr.List _ _) _ _); refine Dl.we_lstF ?_) | walk_at "e")

namespace K03
open PySem PySem.Spec L2 Dl
open PyProof.Rows hiding St

/-! ### terms -/
inductive Tm where
  | v (n : Int)
  | z
  | s (t : Tm)
  | f (t u : Tm)
namespace Tm
def d : Tm → PyData
  | v n => .int n
  | z => .tuple [.str "0"]
  | s t => .tuple [.str "s", t.d]
  | f t u => .tuple [.str "f", t.d, u.d]
def sz : Tm → Nat
  | v _ => 1
  | z => 1
  | s t => t.sz + 1
  | f t u => t.sz + u.sz + 1
/-- the signs as they stand -/
def lv : Tm → List PyData
  | v n => [.int n]
  | z => [.str "0"]
  | s t => .str "s" :: t.lv
  | f t u => .str "f" :: (t.lv ++ u.lv)
def vs : Tm → List Int
  | v n => [n]
  | z => []
  | s t => t.vs
  | f t u => t.vs ++ u.vs
theorem sz_pos : ∀ t : Tm, 1 ≤ t.sz
  | v _ => Nat.le_refl _
  | z => Nat.le_refl _
  | s t => by show 1 ≤ t.sz + 1; omega
  | f t u => by show 1 ≤ t.sz + u.sz + 1; omega
theorem lv_len : ∀ t : Tm, t.lv.length = t.sz
  | v _ => rfl
  | z => rfl
  | s t => by show t.lv.length + 1 = _; rw [lv_len t]; rfl
  | f t u => by show (t.lv ++ u.lv).length + 1 = _; rw [List.length_append, lv_len t, lv_len u]; rfl
/-- the sign and the parts of what is no variable -/
def sg : Tm → Str
  | v _ => ""
  | z => "0"
  | s _ => "s"
  | f _ _ => "f"
def ps : Tm → List Tm
  | v _ => []
  | z => []
  | s t => [t]
  | f t u => [t, u]
def nv : Tm → Bool
  | v _ => false
  | _ => true
theorem d_nv : ∀ {t : Tm}, t.nv = true → t.d = .tuple (.str t.sg :: t.ps.map d)
  | z, _ => rfl
  | s _, _ => rfl
  | f _ _, _ => rfl
theorem lv_nv : ∀ {t : Tm}, t.nv = true → t.lv = .str t.sg :: (t.ps.map lv).flatten
  | z, _ => rfl
  | s _, _ => by simp [lv, sg, ps]
  | f _ _, _ => by simp [lv, sg, ps]
theorem ps_sz : ∀ {t u : Tm}, u ∈ t.ps → u.sz < t.sz
  | s t, u, h => by
    rw [List.mem_singleton.mp h]
    exact Nat.lt_succ_self _
  | f t u, x, h => by
    simp only [ps, List.mem_cons, List.not_mem_nil, or_false] at h
    rcases h with rfl | rfl
    · show x.sz < x.sz + u.sz + 1
      omega
    · show x.sz < t.sz + x.sz + 1
      omega
theorem ps_len : ∀ t : Tm, t.ps.length ≤ 2
  | v _ => Nat.zero_le _
  | z => Nat.zero_le _
  | s _ => show 1 ≤ 2 by decide
  | f _ _ => show 2 ≤ 2 by decide
theorem ps_sum : ∀ {t : Tm}, t.nv = true → (t.ps.map sz).sum + 1 = t.sz
  | z, _ => rfl
  | s t, _ => by simp [ps, sz]
  | f t u, _ => by simp [ps, sz]
end Tm

def topS (i : Nat) : Stmt := PySem.Challenge.pw_ringproofs_k03_variables_and_sizes.main.body.getD i (.Pass ⟨0, 0, 0, 0⟩)
/-! signs_of -/
abbrev s_signs_of : Stmt := topS 1
def N_signs_of : List Str := ["term", "found", "left", "one"]
theorem sc_signs_of : FnScope N_signs_of ["term"] (defScope s_signs_of) := ⟨rfl, rfl, rfl, by decide +kernel, rfl, by decide +kernel, by decide +kernel⟩
abbrev p_signs_of : List Str := ["term"]
abbrev l_signs_of : List (Str × Nat) := [("term", 0), ("found", 1), ("left", 2), ("one", 3)]
theorem nm_signs_of : l_signs_of.all (nmB N_signs_of (defScope s_signs_of)) = true := by decide +kernel
theorem ns_signs_of : l_signs_of.all (nsB N_signs_of (defScope s_signs_of)) = true := by decide +kernel
abbrev g_signs_of : List Str := ["len", "isinstance", "int"]
theorem gn_signs_of : g_signs_of.all (gnB (defScope s_signs_of)) = true := by decide +kernel
/-! variables -/
abbrev s_variables : Stmt := topS 2
def N_variables : List Str := ["term", "one"]
theorem sc_variables : FnScope N_variables ["term"] (defScope s_variables) := ⟨rfl, rfl, rfl, by decide +kernel, rfl, by decide +kernel, by decide +kernel⟩
abbrev p_variables : List Str := ["term"]
abbrev l_variables : List (Str × Nat) := [("term", 0)]
theorem nm_variables : l_variables.all (nmB N_variables (defScope s_variables)) = true := by decide +kernel
theorem ns_variables : l_variables.all (nsB N_variables (defScope s_variables)) = true := by decide +kernel
abbrev g_variables : List Str := ["sorted", "signs_of"]
theorem gn_variables : g_variables.all (gnB (defScope s_variables)) = true := by decide +kernel
/-! size -/
abbrev s_size : Stmt := topS 3
def N_size : List Str := ["term"]
theorem sc_size : FnScope N_size ["term"] (defScope s_size) := ⟨rfl, rfl, rfl, by decide +kernel, rfl, by decide +kernel, by decide +kernel⟩
abbrev p_size : List Str := ["term"]
abbrev l_size : List (Str × Nat) := [("term", 0)]
theorem nm_size : l_size.all (nmB N_size (defScope s_size)) = true := by decide +kernel
theorem ns_size : l_size.all (nsB N_size (defScope s_size)) = true := by decide +kernel
abbrev g_size : List Str := ["len", "signs_of"]
theorem gn_size : g_size.all (gnB (defScope s_size)) = true := by decide +kernel
/-! _law_box -/
abbrev s_box : Stmt := topS 5
def N_box : List Str := ["_law_script", "_law_k", "_law_cell"]
theorem sc_box : FnScope N_box ["_law_script", "_law_k"] (defScope s_box) := ⟨rfl, rfl, rfl, by decide +kernel, rfl, by decide +kernel, by decide +kernel⟩
abbrev p_box : List Str := ["_law_script", "_law_k"]
abbrev l_box : List (Str × Nat) := [("_law_script", 0), ("_law_k", 1), ("_law_cell", 2)]
theorem nm_box : l_box.all (nmB N_box (defScope s_box)) = true := by decide +kernel
theorem ns_box : l_box.all (nsB N_box (defScope s_box)) = true := by decide +kernel
abbrev g_box : List Str := ["len", "abs", "int"]
theorem gn_box : g_box.all (gnB (defScope s_box)) = true := by decide +kernel
/-! _law_take -/
abbrev s_take : Stmt := topS 6
def N_take : List Str := ["_law_box_here", "_law_count", "_law_found", "_law_once"]
theorem sc_take : FnScope N_take ["_law_box_here", "_law_count"] (defScope s_take) := ⟨rfl, rfl, rfl, by decide +kernel, rfl, by decide +kernel, by decide +kernel⟩
abbrev p_take : List Str := ["_law_box_here", "_law_count"]
abbrev l_take : List (Str × Nat) := [("_law_box_here", 0), ("_law_count", 1), ("_law_found", 2), ("_law_once", 3)]
theorem nm_take : l_take.all (nmB N_take (defScope s_take)) = true := by decide +kernel
theorem ns_take : l_take.all (nsB N_take (defScope s_take)) = true := by decide +kernel
abbrev g_take : List Str := []
theorem gn_take : g_take.all (gnB (defScope s_take)) = true := by decide +kernel
/-! _law_pick -/
abbrev s_pick : Stmt := topS 7
def N_pick : List Str := ["_law_box_here", "_law_things"]
theorem sc_pick : FnScope N_pick ["_law_box_here", "_law_things"] (defScope s_pick) := ⟨rfl, rfl, rfl, by decide +kernel, rfl, by decide +kernel, by decide +kernel⟩
abbrev p_pick : List Str := ["_law_box_here", "_law_things"]
abbrev l_pick : List (Str × Nat) := [("_law_box_here", 0), ("_law_things", 1)]
theorem nm_pick : l_pick.all (nmB N_pick (defScope s_pick)) = true := by decide +kernel
theorem ns_pick : l_pick.all (nsB N_pick (defScope s_pick)) = true := by decide +kernel
abbrev g_pick : List Str := ["_law_take", "len"]
theorem gn_pick : g_pick.all (gnB (defScope s_pick)) = true := by decide +kernel
/-! _law_same -/
abbrev s_same : Stmt := topS 8
def N_same : List Str := ["_law_found", "_law_due", "_law_one", "_law_two"]
theorem sc_same : FnScope N_same ["_law_found", "_law_due"] (defScope s_same) := ⟨rfl, rfl, rfl, by decide +kernel, rfl, by decide +kernel, by decide +kernel⟩
abbrev p_same : List Str := ["_law_found", "_law_due"]
abbrev l_same : List (Str × Nat) := [("_law_found", 0), ("_law_due", 1)]
theorem nm_same : l_same.all (nmB N_same (defScope s_same)) = true := by decide +kernel
theorem ns_same : l_same.all (nsB N_same (defScope s_same)) = true := by decide +kernel
abbrev g_same : List Str := ["isinstance", "list", "tuple", "len", "all", "zip", "str", "int", "bool"]
theorem gn_same : g_same.all (gnB (defScope s_same)) = true := by decide +kernel
/-! _law_tree -/
abbrev s_tree : Stmt := topS 9
def N_tree : List Str := ["_law_box_here", "_law_room", "_law_fresh_here", "_law_left"]
theorem sc_tree : FnScope N_tree ["_law_box_here", "_law_room", "_law_fresh_here"] (defScope s_tree) := ⟨rfl, rfl, rfl, by decide +kernel, rfl, by decide +kernel, by decide +kernel⟩
abbrev p_tree : List Str := ["_law_box_here", "_law_room", "_law_fresh_here"]
abbrev l_tree : List (Str × Nat) := [("_law_box_here", 0), ("_law_room", 1), ("_law_fresh_here", 2), ("_law_left", 3)]
theorem nm_tree : l_tree.all (nmB N_tree (defScope s_tree)) = true := by decide +kernel
theorem ns_tree : l_tree.all (nsB N_tree (defScope s_tree)) = true := by decide +kernel
abbrev g_tree : List Str := ["_law_pick", "list", "_law_take", "_law_tree"]
theorem gn_tree : g_tree.all (gnB (defScope s_tree)) = true := by decide +kernel
/-! _law_fresh -/
abbrev s_fresh : Stmt := topS 10
def N_fresh : List Str := ["_law_box_here", "_law_found", "_law_turn", "_law_number"]
theorem sc_fresh : FnScope N_fresh ["_law_box_here"] (defScope s_fresh) := ⟨rfl, rfl, rfl, by decide +kernel, rfl, by decide +kernel, by decide +kernel⟩
abbrev p_fresh : List Str := ["_law_box_here"]
abbrev l_fresh : List (Str × Nat) := [("_law_box_here", 0), ("_law_found", 1), ("_law_turn", 2), ("_law_number", 3)]
theorem nm_fresh : l_fresh.all (nmB N_fresh (defScope s_fresh)) = true := by decide +kernel
theorem ns_fresh : l_fresh.all (nsB N_fresh (defScope s_fresh)) = true := by decide +kernel
abbrev g_fresh : List Str := ["range", "_law_take", "int"]
theorem gn_fresh : g_fresh.all (gnB (defScope s_fresh)) = true := by decide +kernel
/-! _law_leaves -/
abbrev s_leaves : Stmt := topS 11
def N_leaves : List Str := ["_law_term", "_law_found", "_law_part"]
theorem sc_leaves : FnScope N_leaves ["_law_term"] (defScope s_leaves) := ⟨rfl, rfl, rfl, by decide +kernel, rfl, by decide +kernel, by decide +kernel⟩
abbrev p_leaves : List Str := ["_law_term"]
abbrev l_leaves : List (Str × Nat) := [("_law_term", 0), ("_law_found", 1), ("_law_part", 2)]
theorem nm_leaves : l_leaves.all (nmB N_leaves (defScope s_leaves)) = true := by decide +kernel
theorem ns_leaves : l_leaves.all (nsB N_leaves (defScope s_leaves)) = true := by decide +kernel
abbrev g_leaves : List Str := ["isinstance", "int", "_law_leaves"]
theorem gn_leaves : g_leaves.all (gnB (defScope s_leaves)) = true := by decide +kernel
/-! _law_right -/
abbrev s_right : Stmt := topS 12
def N_right : List Str := ["_law_term", "_law_leaves_here", "_law_due", "_law_told", "_law_one"]
theorem sc_right : FnScope N_right ["_law_term"] (defScope s_right) := ⟨rfl, rfl, rfl, by decide +kernel, rfl, by decide +kernel, by decide +kernel⟩
abbrev p_right : List Str := ["_law_term"]
abbrev l_right : List (Str × Nat) := [("_law_term", 0), ("_law_leaves_here", 1), ("_law_due", 2), ("_law_told", 3)]
theorem nm_right : l_right.all (nmB N_right (defScope s_right)) = true := by decide +kernel
theorem ns_right : l_right.all (nsB N_right (defScope s_right)) = true := by decide +kernel
abbrev g_right : List Str := ["_law_leaves", "len", "sorted", "set", "variables", "_law_same", "size"]
theorem gn_right : g_right.all (gnB (defScope s_right)) = true := by decide +kernel
/-! law -/
abbrev s_law : Stmt := topS 13
def N_law : List Str := ["_law_script", "_law_k", "_law_box_here", "_law_fresh_here", "_law_turn", "_law_one", "_law_two", "_law_term"]
theorem sc_law : FnScope N_law ["_law_script"] (defScope s_law) := ⟨rfl, rfl, rfl, by decide +kernel, rfl, by decide +kernel, by decide +kernel⟩
abbrev p_law : List Str := ["_law_script"]
abbrev l_law : List (Str × Nat) := [("_law_script", 0), ("_law_k", 1), ("_law_box_here", 2), ("_law_fresh_here", 3), ("_law_turn", 4), ("_law_one", 5), ("_law_two", 6)]
theorem nm_law : l_law.all (nmB N_law (defScope s_law)) = true := by decide +kernel
theorem ns_law : l_law.all (nsB N_law (defScope s_law)) = true := by decide +kernel
abbrev g_law : List Str := ["range", "min", "len", "_law_box", "_law_fresh", "_law_tree", "_law_take", "all", "size"]
theorem gn_law : g_law.all (gnB (defScope s_law)) = true := by decide +kernel

/-! ### what is drawn -/
section
variable {P : Program} {w : World} {K : PySem.W.Frag} {mg : Str → Option Value} {base : Heap}
def preTake : List PyData → Prop := fun ds => ∃ n : Int, ds = [.int n] ∧ 0 < n ∧ n < 1073741824
def postTake : List PyData → PyData → Prop := fun ds d => ∃ n r : Int, ds = [.int n] ∧ d = .int r ∧ 0 ≤ r ∧ r < n
abbrev RTake : Rl := BoxD preTake (fun _ => 1) postTake
theorem fn_take {k : Nat} {f : Addr} {fd : FuncData} (F : Fun K "_law_take" "_law_take" s_take f fd) : FnOk P w K mg base CX0 (k + 1) f fd p_take (spD K p_take.length RTake) := by
  refine fn_okN F sc_take nm_take ns_take gn_take (fun X g nm ns gn xs om Qd hl hR => ?_)
  have hr := g.room
  obtain ⟨_, _, _, _, _⟩ := nm
  obtain ⟨_, _, _, _, _⟩ := ns
  obtain ⟨b, ds, rfl, rfl, hok, ⟨n, rfl, h0, h1⟩, hq⟩ := hR
  have ha0 := hok.a0
  have hs0 := hok.s0
  have hs1 := hok.s1
  have hc0 := hok.c0
  have hc1 : b.c + 1 ≤ 1099511627776 := hok.c1
  show WS _ _ ⟨[.ob 0, .sh (.int n), .no, .no], [b.o]⟩ _
  repeat walk_at "d"
  refine ⟨fun hc => ?_, fun hc => ?_⟩
  · repeat walk_at "d"
    refine fin_sh rfl (hq _ ⟨b.a / n, b.s, b.c⟩ ⟨n, b.a % n, rfl, rfl, ?_, ?_⟩ ?_)
    · exact Int.emod_nonneg _ (by omega)
    · exact Int.emod_lt_of_pos _ h0
    · exact ⟨⟨Int.ediv_nonneg hok.a0 (by omega), hok.s0, hok.s1, hc0, by show b.c + 0 ≤ _; omega⟩, by show b.c ≤ b.c + 1; omega⟩
  · repeat walk_at "d"
    refine fin_sh rfl (hq _ ⟨b.a, b.s, b.c + 1⟩ ⟨n, _, rfl, rfl, ?_, ?_⟩ ?_)
    · exact Int.emod_nonneg _ (by omega)
    · exact Int.emod_lt_of_pos _ h0
    · exact ⟨⟨ha0, hs0, hs1, by show 0 ≤ b.c + 1; omega, by show b.c + 1 + 0 ≤ _; omega⟩, by show b.c + 1 ≤ b.c + 1; omega⟩
/-- a new box by the k-th number of the script -/
def RBox : Rl := fun xs om Q => ∃ (ns : List Int) (k : Int), xs = [.sh (.list (ns.map .int)), .sh (.int k)] ∧ om = [] ∧ 0 ≤ k ∧ k ≤ 63 ∧ ∀ b : Bx, b.Ok 1000000000 → Q (.ob 0) [b.o]
theorem atI_ex {ds : List PyData} {r : Int} (h0 : 0 ≤ r) (h1 : r < ds.length) : ∃ d, atI ds r = some d ∧ d ∈ ds := by
  obtain ⟨j, rfl⟩ := Int.eq_ofNat_of_zero_le h0
  have hk : j < ds.length := by omega
  exact ⟨ds[j], atI_nat (List.getElem?_eq_getElem hk), List.getElem_mem hk⟩
theorem rngL_len (lo : Int) (n : Nat) : (rngL lo n).length = n := by simp [rngL]
theorem rngL_get {lo : Int} {n i : Nat} {y : Sl} (h : (rngL lo n)[i]? = some y) : i < n ∧ y = .sh (.int (lo + (i : Int))) := by
  have hi : i < n := by
    have := (List.getElem?_eq_some_iff.mp h).1
    rw [rngL_len] at this
    exact this
  unfold rngL at h
  rw [List.getElem?_map, List.getElem?_range hi] at h
  exact ⟨hi, (Option.some.inj h).symm⟩
theorem atI_ints {ns : List Int} {k : Int} (h0 : 0 ≤ k) (h1 : k < ns.length) : ∃ n, atI (ns.map PyData.int) k = some (.int n) := by
  obtain ⟨j, rfl⟩ := Int.eq_ofNat_of_zero_le h0
  have hk : j < ns.length := by omega
  refine ⟨ns[j], atI_nat ?_⟩
  rw [List.getElem?_map, List.getElem?_eq_getElem hk]
  rfl
theorem fn_box {k : Nat} {f : Addr} {fd : FuncData} (F : Fun K "_law_box" "_law_box" s_box f fd) (B : Bare mg) : FnOk P w K mg base CX0 (k + 1) f fd p_box (spD K p_box.length RBox) := by
  refine fn_okN F sc_box nm_box ns_box gn_box (fun X g nm ns gn xs om Qd hl hR => ?_)
  have hr := g.room
  obtain ⟨_, _, _, _⟩ := nm
  obtain ⟨_, _, _, _⟩ := ns
  obtain ⟨gl, ga, gi, _⟩ := gn
  have bl := g.bi gl B.len PySem.boot_len
  have ba := g.bi ga B.abs PyProof.Rows.boot_abs
  have bt := g.bt gi B.int PyProof.Rows.boot_int
  obtain ⟨ns, k, rfl, rfl, h0, h1, hq⟩ := hR
  show WS _ _ ⟨[.sh (.list (ns.map .int)), .sh (.int k), .no], []⟩ _
  iterate 4 walk_at "e"
  refine ws_join (fun z => ∃ c : Int, z = ⟨[.sh (.list (ns.map .int)), .sh (.int k), .sh (.int c)], []⟩) ?_ ?_
  · repeat walk_at "e"
    refine ⟨fun hc => ?_, fun hc => ?_⟩
    · have hc : k < ((ns.map PyData.int).length : Int) := of_decide_eq_true hc
      obtain ⟨n, hn⟩ := atI_ints h0 (by rw [List.length_map] at hc; exact hc)
      repeat walk_at "e"
      refine id_L hn ?_
      repeat walk_at "e"
      exact join_nx ⟨_, rfl⟩
    · repeat walk_at "e"
      exact join_nx ⟨_, rfl⟩
  · rintro z ⟨c, rfl⟩
    repeat walk_at "e"
    refine we_lst ?_
    have hp : (10 : Int) ^ (18 : Int).toNat = 1000000000000000000 := by decide
    have hm0 := Int.emod_nonneg c (show (2147483629 : Int) ≠ 0 by decide)
    have hm1 := Int.emod_lt_of_pos c (show (0 : Int) < 2147483629 by decide)
    repeat walk_at "e"
    refine fin_new (Nat.zero_le _) rfl rfl rfl ?_
    refine hq ⟨_, _, 0⟩ (Bx.Ok.mk0 ?_ ?_ ?_)
    · refine Int.mul_nonneg ?_ ?_
      · split <;> omega
      · (repeat' split) <;> omega
    · omega
    · omega
/-- one of some things -/
def prePick : List PyData → Prop := fun ds => ∃ ts : List PyData, ds = [.list ts] ∧ 0 < ts.length ∧ ts.length < 100000
def postPick : List PyData → PyData → Prop := fun ds d => ∃ ts : List PyData, ds = [.list ts] ∧ d ∈ ts
abbrev RPick : Rl := BoxD prePick (fun _ => 1) postPick
theorem fn_pick {k : Nat} {f : Addr} {fd : FuncData} (F : Fun K "_law_pick" "_law_pick" s_pick f fd) (B : Bare mg) (dT : Df P w K mg base "_law_take" (k + 1) p_take RTake) : FnOk P w K mg base CX0 (k + 2) f fd p_pick (spD K p_pick.length RPick) := by
  refine fn_okN F sc_pick nm_pick ns_pick gn_pick (fun X g nm ns gn xs om Qd hl hR => ?_)
  have hr := g.room
  obtain ⟨_, _, _⟩ := nm
  obtain ⟨gt, gl, _⟩ := gn
  have bl := g.bi gl B.len PySem.boot_len
  have ct := g.cf gt dT
  obtain ⟨b, ds, rfl, rfl, hok, ⟨ts, rfl, h0, h1⟩, hq⟩ := hR
  show WS _ _ ⟨[.ob 0, .sh (.list ts)], [b.o]⟩ _
  repeat walk_at "e"
  refine ⟨_, _, _, b, rfl, rfl, rfl, hok, ⟨_, rfl, by omega, by omega⟩, rfl, ?_⟩
  rintro d b' ⟨n, r, e1, rfl, hr0, hr1⟩ hb
  cases e1
  obtain ⟨j, rfl⟩ := Int.eq_ofNat_of_zero_le hr0
  have hj : j < ts.length := by omega
  refine id_L (atI_nat (List.getElem?_eq_getElem hj)) ?_
  repeat walk_at "e"
  exact fin_sh rfl (hq _ b' ⟨ts, rfl, List.getElem_mem hj⟩ hb)
end

/-! ### alike, kind by kind -/
section
variable {P : Program} {w : World} {K : PySem.W.Frag} {mg : Str → Option Value} {base : Heap}
def sameF (n : Nat) : List PyData → PyData → Prop := fun ds r => ∃ d, ds = [d, d] ∧ Pd n d ∧ r = .bool true
theorem zipD_self (ds : List PyData) : zipD ds ds = ds.map fun d => .tuple [d, d] := by
  induction ds with
  | nil => rfl
  | cons d r ih => simp [zipD, ih]
theorem same_step {f : Addr} {fd : FuncData} (F : Fun K "_law_same" "_law_same" s_same f fd) (B : Bare mg) (n : Nat) (hrec : ∀ m, n = m + 1 → Df P w K mg base "_law_same" (m + 1) p_same (PureR (sameF m))) :
    FnOk P w K mg base CX0 (n + 1) f fd p_same (spD K p_same.length (PureR (sameF n))) := by
  refine fn_okN F sc_same nm_same ns_same gn_same (fun X g nm ns gn xs om Qd hl hR => ?_)
  have hr := g.room
  obtain ⟨_, _, _⟩ := nm
  obtain ⟨g1, g2, g3, g4, g5, g6, g7, g8, g9, _⟩ := gn
  have b1 := g.bi g1 B.isi PyProof.Rows.boot_isinstance
  have b2 := g.bt g2 B.list PyProof.Rows.boot_list
  have b3 := g.bt g3 B.tup PyProof.Rows.boot_tuple
  have b4 := g.bi g4 B.len PySem.boot_len
  have b5 := g.bi g5 B.all PyProof.Rows.boot_all
  have b7 := g.bt g7 B.str PyProof.Rows.boot_str
  have b8 := g.bt g8 B.int PyProof.Rows.boot_int
  have b9 := g.bt g9 B.bool PyProof.Rows.boot_bool
  obtain ⟨ds, r, rfl, rfl, ⟨d, rfl, hp, rfl⟩, hq⟩ := hR
  show WS _ _ ⟨[.sh d, .sh d, .no, .no], []⟩ _
  cases d with
  | none =>
    repeat walk_at "d"
    exact fin_sh rfl hq
  | str x =>
    repeat walk_at "d"
    rw [decide_eq_true (rfl : x = x)]
    repeat walk_at "d"
    exact fin_sh rfl hq
  | bool b =>
    repeat walk_at "d"
    rw [decide_eq_true (rfl : b = b)]
    exact fin_sh rfl hq
  | int i =>
    repeat walk_at "d"
    rw [decide_eq_true (rfl : i = i)]
    exact fin_sh rfl hq
  | dict kvs => cases n <;> exact hp.elim
  | list ds =>
    cases n with
    | zero => exact hp.elim
    | succ n =>
      repeat walk_at "d"
      refine ⟨fun h => ?_, fun _ => ?_⟩
      · simp at h
      repeat walk_at "d"
      refine we_lcF (own := [("_law_one", 2), ("_law_two", 3)]) (g := gTup X.K 2 (gNames [2, 3])) g.nd (g.blk (by decide +kernel)) (fun s H C cl fp => g.bpg2 (by decide +kernel)) ?_ g.calm
      refine wi_zip (by rw [g.mg]; exact B.zip) ?_ g6.g
      repeat walk_at "d"
      refine ⟨ds, ds, .ls ds ds, ?_⟩
      refine lcd_map (ds.map fun _ => .bool true) ?_ ?_ ?_ (fun i y d hy hd => ?_) ?_
      · simp [zipD_len]
      · simp [zipD_len]
        exact hp.1
      · trivial
      · rw [zipD_self, List.map_map, List.getElem?_map] at hy
        obtain ⟨a, ha, rfl⟩ := Option.map_eq_some_iff.mp hy
        rw [List.getElem?_map, ha] at hd
        cases hd
        refine gd_tup (ds := [a, a]) rfl (by simp) rfl rfl ?_
        intro s H C cl fp
        refine g.inB [("_law_one", 2), ("_law_two", 3)] ["_law_same"] (by decide +kernel) (by decide +kernel) fun nb gb => ?_
        obtain ⟨_, _, _⟩ := nb
        have cs := g.bcf gb.1 (hrec n rfl)
        repeat walk_at "d"
        exact ⟨_, _, rfl, ⟨a, rfl, hp.2 a (List.mem_of_getElem? ha), rfl⟩, rfl, rfl, rfl⟩
      · repeat walk_at "d"
        refine cd_all (bs := ds.map fun _ => true) (by rw [← bls_map, List.map_map]; rfl) ?_ g.calm
        have e : (ds.map fun _ => true).all _root_.id = true := by simp
        rw [e]
        repeat walk_at "d"
        exact fin_sh rfl hq
  | tuple ds =>
    cases n with
    | zero => exact hp.elim
    | succ n =>
      repeat walk_at "d"
      refine ⟨fun h => ?_, fun _ => ?_⟩
      · simp at h
      repeat walk_at "d"
      refine we_lcF (own := [("_law_one", 2), ("_law_two", 3)]) (g := gTup X.K 2 (gNames [2, 3])) g.nd (g.blk (by decide +kernel)) (fun s H C cl fp => g.bpg2 (by decide +kernel)) ?_ g.calm
      refine wi_zip (by rw [g.mg]; exact B.zip) ?_ g6.g
      repeat walk_at "d"
      refine ⟨ds, ds, .ts ds ds, ?_⟩
      refine lcd_map (ds.map fun _ => .bool true) ?_ ?_ ?_ (fun i y d hy hd => ?_) ?_
      · simp [zipD_len]
      · simp [zipD_len]
        exact hp.1
      · trivial
      · rw [zipD_self, List.map_map, List.getElem?_map] at hy
        obtain ⟨a, ha, rfl⟩ := Option.map_eq_some_iff.mp hy
        rw [List.getElem?_map, ha] at hd
        cases hd
        refine gd_tup (ds := [a, a]) rfl (by simp) rfl rfl ?_
        intro s H C cl fp
        refine g.inB [("_law_one", 2), ("_law_two", 3)] ["_law_same"] (by decide +kernel) (by decide +kernel) fun nb gb => ?_
        obtain ⟨_, _, _⟩ := nb
        have cs := g.bcf gb.1 (hrec n rfl)
        repeat walk_at "d"
        exact ⟨_, _, rfl, ⟨a, rfl, hp.2 a (List.mem_of_getElem? ha), rfl⟩, rfl, rfl, rfl⟩
      · repeat walk_at "d"
        refine cd_all (bs := ds.map fun _ => true) (by rw [← bls_map, List.map_map]; rfl) ?_ g.calm
        have e : (ds.map fun _ => true).all _root_.id = true := by simp
        rw [e]
        repeat walk_at "d"
        exact fin_sh rfl hq
theorem fn_same {f : Addr} {fd : FuncData} (F : Fun K "_law_same" "_law_same" s_same f fd) (hm : mg "_law_same" = some (.ref f)) (hb : Binds K fd p_same []) (B : Bare mg) : ∀ n : Nat, Df P w K mg base "_law_same" (n + 1) p_same (PureR (sameF n)) := by
  intro n
  induction n with
  | zero => exact ⟨f, fd, same_step F B 0 (fun m e => by omega), hm, F.kp, hb⟩
  | succ n ih => exact ⟨f, fd, same_step F B (n + 1) (fun m e => by
      have e : m = n := by omega
      subst e
      exact ih), hm, F.kp, hb⟩
end

/-! ### terms by draws -/
section
variable {P : Program} {w : World} {K : PySem.W.Frag} {mg : Str → Option Value} {base : Heap}
def preTree (n : Nat) : List PyData → Prop := fun ds => ∃ (r : Nat) (fs : List Int), ds = [.int r, .list (fs.map .int)] ∧ 1 ≤ r ∧ r ≤ n ∧ r ≤ 1000 ∧ fs.length ≤ 1000
def costTree : List PyData → Nat
  | [.int r, _] => r.toNat
  | _ => 0
def elsTree : List PyData → List PyData
  | [_, .list l] => l
  | _ => []
def postTree : List PyData → PyData → Prop := fun ds d => ∃ t : Tm, d = t.d ∧ t.sz = costTree ds ∧ ∀ x ∈ t.vs, PyData.int x ∈ elsTree ds
abbrev RTree (n : Nat) : Rl := BoxD (preTree n) costTree postTree
theorem tree_step {f : Addr} {fd : FuncData} (F : Fun K "_law_tree" "_law_tree" s_tree f fd) (B : Bare mg) (n : Nat) (dT : Df P w K mg base "_law_take" 1 p_take RTake) (dP : Df P w K mg base "_law_pick" 2 p_pick RPick) (hrec : ∀ m, n = m + 1 → Df P w K mg base "_law_tree" (m + 3) p_tree (RTree m)) :
    FnOk P w K mg base CX0 (n + 3) f fd p_tree (spD K p_tree.length (RTree n)) := by
  refine fn_okN F sc_tree nm_tree ns_tree gn_tree (fun X g nm ns gn xs om Qd hl hR => ?_)
  have hr := g.room
  obtain ⟨_, _, _, _, _⟩ := nm
  obtain ⟨_, _, _, _, _⟩ := ns
  obtain ⟨g1, g2, g3, g4, _⟩ := gn
  obtain ⟨b, ds, rfl, rfl, hok, ⟨r, fs, rfl, h1, h2, h3, h4⟩, hq⟩ := hR
  have hok : b.Ok r := hok
  show WS _ _ ⟨[.ob 0, .sh (.int r), .sh (.list (fs.map .int)), .no], [b.o]⟩ _
  have bl := g.bt g2 B.list PyProof.Rows.boot_list
  have c1 := g.cf g1 dP
  have c3 := g.cf g3 dT
  have hsz : ((fs.map PyData.int).length : Nat) = fs.length := List.length_map _
  by_cases hr1 : r = 1
  · subst hr1
    repeat walk_at "d"
    refine ⟨_, _, _, b, rfl, rfl, rfl, hok, ⟨_, rfl, ?_, ?_⟩, rfl, ?_⟩
    · simp
      omega
    · simp [List.length_flatten]
      omega
    · rintro d b' ⟨ts, e1, hd⟩ hb
      cases e1
      repeat walk_at "d"
      refine fin_sh rfl (hq d b' ?_ hb)
      rcases List.mem_append.mp hd with hd | hd
      · obtain ⟨l, hl1, hl2⟩ := List.mem_flatten.mp hd
        rw [(List.mem_replicate.mp hl1).2] at hl2
        obtain ⟨m, hm1, rfl⟩ := List.mem_map.mp hl2
        exact ⟨.v m, rfl, rfl, fun x hx => by
          rw [List.mem_singleton.mp hx]
          exact List.mem_map.mpr ⟨m, hm1, rfl⟩⟩
      · rw [List.mem_singleton.mp hd]
        exact ⟨.z, rfl, rfl, fun x hx => nomatch hx⟩
  · obtain ⟨m, rfl⟩ : ∃ m, n = m + 1 := ⟨n - 1, by omega⟩
    have c4 := g.cf g4 (hrec m rfl)
    repeat walk_at "d"
    refine ⟨fun h => ?_, fun _ => ?_⟩
    · have := of_decide_eq_true h
      omega
    repeat walk_at "d"
    refine ⟨_, _, _, b, rfl, rfl, rfl, hok.mono h1, ⟨_, rfl, by omega, by omega⟩, rfl, ?_⟩
    rintro d b1 ⟨q, l, e1, rfl, hl0, hl1⟩ hb1
    cases e1
    obtain ⟨l, rfl⟩ := Int.eq_ofNat_of_zero_le hl0
    repeat walk_at "d"
    refine ⟨fun h => ?_, fun h => ?_⟩
    · have hl0 : l = 0 := by
        have := of_decide_eq_true h
        omega
      repeat walk_at "d"
      have er : ((r : Int) - 1) = ((r - 1 : Nat) : Int) := by omega
      rw [er]
      refine ⟨_, _, _, b1, rfl, rfl, rfl, hok.after hb1 ?_, ⟨r - 1, fs, rfl, by omega, by omega, by omega, h4⟩, rfl, ?_⟩
      · show 1 + (((r - 1 : Nat) : Int)).toNat ≤ r
        omega
      rintro d b2 ⟨t, rfl, ht, hv⟩ hb2
      repeat walk_at "d"
      refine fin_sh rfl (hq _ b2 ⟨.s t, rfl, ?_, hv⟩ ?_)
      · have ht : t.sz = (((r - 1 : Nat) : Int)).toNat := ht
        show t.sz + 1 = (r : Int).toNat
        omega
      · refine (hb1.trans hb2).mono ?_
        show 1 + (((r - 1 : Nat) : Int)).toNat ≤ (r : Int).toNat
        omega
    · have hl0 : l ≠ 0 := by
        have := of_decide_eq_false h
        omega
      repeat walk_at "d"
      refine ⟨_, _, _, b1, rfl, rfl, rfl, hok.after hb1 (k := l) ?_, ⟨l, fs, rfl, by omega, by omega, by omega, h4⟩, rfl, ?_⟩
      · omega
      rintro d b2 ⟨t, rfl, ht, hv⟩ hb2
      have hb2 : b1.Le b2 l := hb2
      repeat walk_at "d"
      have er : ((r : Int) - 1 - (l : Int)) = ((r - 1 - l : Nat) : Int) := by omega
      rw [er]
      refine ⟨_, _, _, b2, rfl, rfl, rfl, hok.after (hb1.trans hb2) (k := r - 1 - l) ?_, ⟨r - 1 - l, fs, rfl, by omega, by omega, by omega, h4⟩, rfl, ?_⟩
      · omega
      rintro d b3 ⟨u, rfl, hu, hv2⟩ hb3
      have hb3 : b2.Le b3 (r - 1 - l) := hb3
      repeat walk_at "d"
      refine fin_sh rfl (hq _ b3 ⟨.f t u, rfl, ?_, ?_⟩ ?_)
      · have ht : t.sz = l := ht
        have hu : u.sz = r - 1 - l := hu
        show t.sz + u.sz + 1 = (r : Int).toNat
        omega
      · intro x hx
        rcases List.mem_append.mp hx with hx | hx
        · exact hv x hx
        · exact hv2 x hx
      · refine ((hb1.trans hb2).trans hb3).mono ?_
        show 1 + l + (r - 1 - l) ≤ r
        omega
theorem fn_tree {f : Addr} {fd : FuncData} (F : Fun K "_law_tree" "_law_tree" s_tree f fd) (hm : mg "_law_tree" = some (.ref f)) (hb : Binds K fd p_tree []) (B : Bare mg) (dT : Df P w K mg base "_law_take" 1 p_take RTake) (dP : Df P w K mg base "_law_pick" 2 p_pick RPick) : ∀ n : Nat, Df P w K mg base "_law_tree" (n + 3) p_tree (RTree n) := by
  intro n
  induction n with
  | zero => exact ⟨f, fd, tree_step F B 0 dT dP (fun m e => by omega), hm, F.kp, hb⟩
  | succ n ih => exact ⟨f, fd, tree_step F B (n + 1) dT dP (fun m e => by
      have e : m = n := by omega
      subst e
      exact ih), hm, F.kp, hb⟩
end

/-! ### some unlike variables -/
section
variable {P : Program} {w : World} {K : PySem.W.Frag} {mg : Str → Option Value} {base : Heap}
def postFresh : List PyData → PyData → Prop := fun _ d => ∃ ns : List Int, d = .list (ns.map .int) ∧ ns.length ≤ 4 ∧ ∀ n ∈ ns, 0 ≤ n ∧ n ≤ 99
abbrev RFresh : Rl := BoxD (fun ds => ds = []) (fun _ => 9) postFresh
theorem fn_fresh {f : Addr} {fd : FuncData} (F : Fun K "_law_fresh" "_law_fresh" s_fresh f fd) (B : Bare mg) (dT : Df P w K mg base "_law_take" 1 p_take RTake) : FnOk P w K mg base CX0 2 f fd p_fresh (spD K p_fresh.length RFresh) := by
  refine fn_okN F sc_fresh nm_fresh ns_fresh gn_fresh (fun X g nm ns gn xs om Qd hl hR => ?_)
  have hr := g.room
  obtain ⟨_, _, _, _, _⟩ := nm
  obtain ⟨_, _, n3, _, _⟩ := ns
  obtain ⟨g1, g2, g3, _⟩ := gn
  have bi := g.bt g3 B.int PyProof.Rows.boot_int
  have ct := g.cf g2 dT
  obtain ⟨b, ds, rfl, rfl, hok, rfl, hq⟩ := hR
  have hok : b.Ok 9 := hok
  show WS _ _ ⟨[.ob 0, .no, .no, .no], [b.o]⟩ _
  repeat walk_at "d"
  refine w1_for (g := gName 2) (vs := [2]) (pgN n3) ?_ g.calm g.po
  refine wi_rng1 g1.g (by rw [g.mg]; exact B.range) ?_
  repeat walk_at "d"
  refine ⟨_, _, _, b, rfl, rfl, rfl, hok.mono (by decide), ⟨_, rfl, by decide, by decide⟩, rfl, ?_⟩
  rintro d b1 ⟨q, r, e1, rfl, hr0, hr1⟩ hb1
  cases e1
  repeat walk_at "d"
  refine ⟨by omega, by omega, fun i z => ∃ (ns : List Int) (b' : Bx) (x y : Sl), z = ⟨[.ob 0, .sh (.list (ns.map .int)), x, y], [b'.o]⟩ ∧ ns.length ≤ i ∧ (∀ n ∈ ns, 0 ≤ n ∧ n ≤ 99) ∧ b.Le b' (1 + 2 * i), ?_, ?_, ?_, ?_⟩
  · exact ⟨[], b1, .no, .no, rfl, Nat.le_refl _, (fun n hn => by cases hn), hb1⟩
  · exact fun _ _ _ _ => trivial
  · rintro i y z hy ⟨ns, b2, x2, x3, rfl, hnl, hn, hb2⟩
    obtain ⟨hi, rfl⟩ := rngL_get hy
    have hi4 : i < 4 := by omega
    refine gd_name (by simp) ?_
    show WS _ _ ⟨[.ob 0, .sh (.list (ns.map .int)), .sh (.int (0 + (i : Int))), x3], [b2.o]⟩ _
    repeat walk_at "d"
    refine ⟨_, _, _, b2, rfl, rfl, rfl, hok.after hb2 (k := 1) (by omega), ⟨_, rfl, by decide, by decide⟩, rfl, ?_⟩
    rintro d b3 ⟨q2, r2, e1, rfl, hr20, hr21⟩ hb3
    cases e1
    repeat walk_at "d"
    refine ⟨_, _, _, b3, rfl, rfl, rfl, hok.after (hb2.trans hb3) (k := 1) (by omega), ⟨_, rfl, by decide, by decide⟩, rfl, ?_⟩
    rintro d b4 ⟨q3, r3, e1, rfl, hr30, hr31⟩ hb4
    cases e1
    obtain ⟨dd, hd1, hd2⟩ := atI_ex (ds := [.int (0 + (i : Int)), .int r2, .int (99 - (0 + (i : Int)))]) hr30 hr31
    obtain ⟨m, rfl, hm0, hm1⟩ : ∃ m : Int, dd = .int m ∧ 0 ≤ m ∧ m ≤ 99 := by
      simp only [List.mem_cons, List.not_mem_nil, or_false] at hd2
      rcases hd2 with rfl | rfl | rfl
      · exact ⟨_, rfl, by omega, by omega⟩
      · exact ⟨_, rfl, by omega, by omega⟩
      · exact ⟨_, rfl, by omega, by omega⟩
    refine id_L hd1 ?_
    have hsz : ((ns.map PyData.int).length : Nat) = ns.length := List.length_map _
    repeat walk_at "d"
    refine loop_nx ⟨if ns.contains m then ns else ns ++ [m], b4, .sh (.int (0 + (i : Int))), .sh (.int m), ?_, ?_, ?_, ?_⟩
    · by_cases hc : ns.contains m = true
      · simp only [hc, if_true]
        simp
      · simp only [hc, if_false]
        simp
    · split
      · omega
      · rw [List.length_append]
        simp
        omega
    · intro n hm
      split at hm
      · exact hn n hm
      · rcases List.mem_append.mp hm with hm | hm
        · exact hn n hm
        · rw [List.mem_singleton.mp hm]
          exact ⟨hm0, hm1⟩
    · exact ((hb2.trans hb3).trans hb4).mono (by omega)
  · rintro z ⟨ns, b2, x2, x3, rfl, hnl, hn, hb2⟩
    rw [rngL_len] at hnl hb2
    repeat walk_at "d"
    exact fin_sh rfl (hq _ b2 ⟨ns, rfl, by omega, hn⟩ (hb2.mono (by show _ ≤ 9; omega)))
end

/-! ### the signs of a term -/
section
variable {P : Program} {w : World} {K : PySem.W.Frag} {mg : Str → Option Value} {base : Heap}
/-- the law's own going through -/
def leavesF (n : Nat) : List PyData → PyData → Prop := fun ds r => ∃ t : Tm, ds = [t.d] ∧ t.sz ≤ n ∧ t.sz ≤ 1000 ∧ r = .list t.lv
theorem cut_tail (d : PyData) (ds : List PyData) : cutL (d :: ds) (some 1) none = ds := by
  unfold cutL
  rw [show HT.sIx (d :: ds).length 0 (some 1) = min 1 (d :: ds).length from HT.sIx_nat (d :: ds).length 0 1, HT.sIx_none]
  rw [show min 1 (d :: ds).length = 1 by rw [List.length_cons]; omega]
  show List.take ((d :: ds).length - 1) ds = ds
  rw [List.length_cons, Nat.add_sub_cancel]
  exact List.take_length
theorem cut_nw (d : PyData) (ds : List PyData) : ¬ (HT.sIx (d :: ds).length 0 (some 1) = 0 ∧ HT.sIx (d :: ds).length (d :: ds).length none = (d :: ds).length) := by
  rw [show HT.sIx (d :: ds).length 0 (some 1) = min 1 (d :: ds).length from HT.sIx_nat (d :: ds).length 0 1]
  rw [List.length_cons]
  omega
theorem leaves_step {f : Addr} {fd : FuncData} (F : Fun K "_law_leaves" "_law_leaves" s_leaves f fd) (B : Bare mg) (n : Nat) (hrec : ∀ m, n = m + 1 → Df P w K mg base "_law_leaves" (m + 1) p_leaves (PureR (leavesF m))) :
    FnOk P w K mg base CX0 (n + 1) f fd p_leaves (spD K p_leaves.length (PureR (leavesF n))) := by
  refine fn_okN F sc_leaves nm_leaves ns_leaves gn_leaves (fun X g nm ns gn xs om Qd hl hR => ?_)
  have hr := g.room
  obtain ⟨_, _, _, _⟩ := nm
  obtain ⟨_, _, n3, _⟩ := ns
  obtain ⟨g1, g2, g3, _⟩ := gn
  have b1 := g.bi g1 B.isi PyProof.Rows.boot_isinstance
  have b2 := g.bt g2 B.int PyProof.Rows.boot_int
  obtain ⟨ds, r, rfl, rfl, ⟨t, rfl, h1, h2, rfl⟩, hq⟩ := hR
  show WS _ _ ⟨[.sh t.d, .no, .no], []⟩ _
  by_cases hv : t.nv = true
  · rw [Tm.d_nv hv]
    rw [Tm.lv_nv hv] at hq
    repeat walk_at "d"
    refine id_T (atI_nat (j := 0) rfl) ?_
    repeat walk_at "d"
    refine w1_for (g := gName 2) (vs := [2]) (pgN n3) ?_ g.calm g.po
    refine wi_tup ?_
    repeat walk_at "d"
    refine sd_T (cut_nw _ _) ?_
    rw [cut_tail]
    refine ⟨_, rfl, fun i z => ∃ x, z = ⟨[.sh (.tuple (.str t.sg :: t.ps.map Tm.d)), .sh (.list (.str t.sg :: ((t.ps.take i).map Tm.lv).flatten)), x], []⟩, ?_, ?_, ?_, ?_⟩
    · exact ⟨.no, rfl⟩
    · exact fun _ _ _ _ => trivial
    · rintro i y z hy ⟨x, rfl⟩
      rw [List.map_map, List.getElem?_map] at hy
      obtain ⟨u, hu, rfl⟩ := Option.map_eq_some_iff.mp hy
      have hu1 := Tm.ps_sz (List.mem_of_getElem? hu)
      obtain ⟨m, rfl⟩ : ∃ m, n = m + 1 := ⟨n - 1, by omega⟩
      have c3 := g.cf g3 (hrec m rfl)
      refine gd_name (by simp) ?_
      show WS _ _ ⟨[.sh (.tuple (.str t.sg :: t.ps.map Tm.d)), .sh (.list (.str t.sg :: ((t.ps.take i).map Tm.lv).flatten)), .sh u.d], []⟩ _
      repeat walk_at "d"
      refine ⟨_, _, rfl, ⟨u, rfl, by omega, by omega, rfl⟩, rfl, ?_⟩
      refine rd_catF ?_ ?_
      · have l1 : ((t.ps.take i).map Tm.lv).flatten.length ≤ 2000 := by
          rw [List.length_flatten, List.map_map]
          have l2 : ∀ (l : List Tm), (∀ u ∈ l, u ∈ t.ps) → (l.map (List.length ∘ Tm.lv)).sum ≤ l.length * 1000 := fun l => by
            induction l with
            | nil => intro _; exact Nat.le_refl _
            | cons a r ih =>
              intro h
              have h5 := ih fun u hu => h u (List.mem_cons_of_mem _ hu)
              have h6 := Tm.ps_sz (h a List.mem_cons_self)
              have h7 := Tm.lv_len a
              show a.lv.length + (r.map (List.length ∘ Tm.lv)).sum ≤ (r.length + 1) * 1000
              omega
          have h8 := l2 (t.ps.take i) fun u hu => List.mem_of_mem_take hu
          have h9 := Tm.ps_len t
          have h10 : (t.ps.take i).length ≤ 2 := by
            rw [List.length_take]
            omega
          omega
        rw [List.length_cons, Tm.lv_len]
        omega
      repeat walk_at "d"
      refine loop_nx ⟨.sh u.d, ?_⟩
      rw [List.take_add_one, hu, List.map_append, List.flatten_append]
      simp
    · rintro z ⟨x, rfl⟩
      rw [List.length_map, List.length_map, List.take_of_length_le (Nat.le_refl _)]
      repeat walk_at "d"
      exact fin_sh rfl hq
  · cases t with
    | v m =>
      show WS _ _ ⟨[.sh (.int m), .no, .no], []⟩ _
      repeat walk_at "d"
      exact fin_sh rfl hq
    | z => exact absurd rfl hv
    | s t => exact absurd rfl hv
    | f t u => exact absurd rfl hv
theorem fn_leaves {f : Addr} {fd : FuncData} (F : Fun K "_law_leaves" "_law_leaves" s_leaves f fd) (hm : mg "_law_leaves" = some (.ref f)) (hb : Binds K fd p_leaves []) (B : Bare mg) : ∀ n : Nat, Df P w K mg base "_law_leaves" (n + 1) p_leaves (PureR (leavesF n)) := by
  intro n
  induction n with
  | zero => exact ⟨f, fd, leaves_step F B 0 (fun m e => by omega), hm, F.kp, hb⟩
  | succ n ih => exact ⟨f, fd, leaves_step F B (n + 1) (fun m e => by
      have e : m = n := by omega
      subst e
      exact ih), hm, F.kp, hb⟩
end

/-! ### signs_of, size -/
section
variable {P : Program} {w : World} {K : PySem.W.Frag} {mg : Str → Option Value} {base : Heap}
def signsF : List PyData → List PyData → Prop := fun ds r => ∃ t : Tm, ds = [t.d] ∧ t.sz ≤ 1000 ∧ r = t.lv
theorem fn_signs {f : Addr} {fd : FuncData} (F : Fun K "signs_of" "signs_of" s_signs_of f fd) (B : Bare mg) : FnOk P w K mg base CX0 1 f fd p_signs_of (spD K p_signs_of.length (NewR signsF)) := by
  refine fn_okN F sc_signs_of nm_signs_of ns_signs_of gn_signs_of (fun X g nm ns gn xs om Qd hl hR => ?_)
  have hr := g.room
  obtain ⟨_, _, _, _, _⟩ := nm
  obtain ⟨_, n1, n2, _, _⟩ := ns
  obtain ⟨g1, g2, g3, _⟩ := gn
  have b1 := g.bi g1 B.len PySem.boot_len
  have b2 := g.bi g2 B.isi PyProof.Rows.boot_isinstance
  have b3 := g.bt g3 B.int PyProof.Rows.boot_int
  obtain ⟨ds, r, rfl, rfl, ⟨t, rfl, h1, rfl⟩, hq⟩ := hR
  show WS _ _ ⟨[.sh t.d, .no, .no, .no], []⟩ _
  refine ws_cons ?_
  refine w1_par (n := 1) (m := 2) g.nd n1.n n2.n (by decide) ?_ (swap2 g.knd (g.loc (by decide +kernel)) (g.loc (by decide +kernel)) (by decide)) rfl (g.loc (by decide +kernel)) (g.loc (by decide +kernel)) g.calm
  refine we_lst ?_
  repeat walk_at "e"
  refine we_lst ?_
  repeat walk_at "e"
  refine w1_while (fun n z => ∃ (acc : List PyData) (st : List Tm) (x : Sl), z = ⟨[.sh t.d, .ob 0, .ob 1, x], [.lst (acc.map .sh), .lst (st.map fun u => .sh u.d)]⟩ ∧ acc ++ (st.reverse.map Tm.lv).flatten = t.lv ∧ (st.map Tm.sz).sum = n) (m := t.sz) ?_ ?_ g.po
  · exact ⟨[], [t], .no, rfl, by simp, by simp⟩
  · rintro n z ⟨acc, st, x, rfl, hacc, hn⟩
    have hlen : acc.length + ((st.reverse.map Tm.lv).flatten).length = t.sz := by
      rw [← List.length_append, hacc, Tm.lv_len]
    repeat walk_at "e"
    refine ⟨fun h => ?_, fun h => ?_⟩
    · have hst : st ≠ [] := by
        rintro rfl
        simp at h
      obtain ⟨st', u, rfl⟩ : ∃ st' u, st = st' ++ [u] := ⟨st.dropLast, st.getLast hst, (List.dropLast_concat_getLast hst).symm⟩
      have hfl : ((st' ++ [u]).reverse.map Tm.lv).flatten = u.lv ++ (st'.reverse.map Tm.lv).flatten := by simp
      rw [hfl] at hacc hlen
      have hal : acc.length ≤ 1000 := by omega
      have hsl : st'.length ≤ 1000 := by
        rw [List.length_append] at hlen
        have h7 : st'.length ≤ (st'.reverse.map Tm.lv).flatten.length := by
          have h8 : ∀ l : List Tm, l.length ≤ (l.map Tm.lv).flatten.length := fun l => by
            induction l with
            | nil => exact Nat.le_refl _
            | cons a r ih =>
              have h9 := Tm.sz_pos a
              have h10 := Tm.lv_len a
              rw [List.map_cons, List.flatten_cons, List.length_append, List.length_cons]
              omega
          have h11 := h8 st'.reverse
          rw [List.length_reverse] at h11
          exact h11
        omega
      have hn' : (st'.map Tm.sz).sum + u.sz = n := by
        rw [List.map_append, List.sum_append] at hn
        simpa using hn
      rw [List.map_append]
      repeat walk_at "e"
      refine mo_pop (xs := st'.map fun u => .sh u.d) (y := .sh u.d) rfl ?_
      repeat walk_at "e"
      have hup := Tm.sz_pos u
      by_cases hv : u.nv = true
      · rw [Tm.d_nv hv]
        rw [Tm.lv_nv hv] at hacc hlen
        repeat walk_at "e"
        refine id_T (atI_nat (j := 0) rfl) ?_
        have hpl := Tm.ps_len u
        repeat walk_at "e"
        refine s3_back (by rw [List.length_map]; omega) ?_
        repeat walk_at "e"
        refine loop_nx ⟨((st' ++ u.ps.reverse).map Tm.sz).sum, ?_, acc ++ [.str u.sg], st' ++ u.ps.reverse, .sh (.tuple (.str u.sg :: u.ps.map Tm.d)), ?_, ?_, rfl⟩
        · have hps := Tm.ps_sum hv
          rw [List.map_append, List.sum_append, List.map_reverse, List.sum_reverse]
          omega
        · simp [Function.comp_def]
        · rw [← hacc]
          simp
      · cases u with
        | v m =>
          show ∃ r, Isi (.sh (.int m)) ⟨[.sh t.d, .ob 0, .ob 1, .sh (.int m)], _⟩ _ r ∧ _
          repeat walk_at "e"
          refine loop_nx ⟨(st'.map Tm.sz).sum, by omega, acc ++ [.int m], st', .sh (.int m), ?_, ?_, rfl⟩
          · simp [Tm.d]
          · rw [← hacc]
            simp [Tm.lv]
        | z => exact absurd rfl hv
        | s t => exact absurd rfl hv
        | f t u => exact absurd rfl hv
    · have hst : st = [] := by
        cases st with
        | nil => rfl
        | cons a r => simp at h
      subst hst
      repeat walk_at "e"
      refine fin_new (Nat.zero_le _) rfl rfl ?_ ?_
      · rw [List.all_eq_true]
        intro y hy
        obtain ⟨d, _, rfl⟩ := List.mem_map.mp hy
        rfl
      · have e : acc = t.lv := by simpa using hacc
        rw [e]
        exact hq
def sizeF : List PyData → PyData → Prop := fun ds r => ∃ t : Tm, ds = [t.d] ∧ t.sz ≤ 1000 ∧ r = .int t.sz
theorem fn_size {f : Addr} {fd : FuncData} (F : Fun K "size" "size" s_size f fd) (B : Bare mg) (dS : Df P w K mg base "signs_of" 1 p_signs_of (NewR signsF)) : FnOk P w K mg base CX0 2 f fd p_size (spD K p_size.length (PureR sizeF)) := by
  refine fn_okN F sc_size nm_size ns_size gn_size (fun X g nm ns gn xs om Qd hl hR => ?_)
  have hr := g.room
  obtain ⟨_, _⟩ := nm
  obtain ⟨g1, g2, _⟩ := gn
  have b1 := g.bi g1 B.len PySem.boot_len
  have c2 := g.cf g2 dS.frz
  obtain ⟨ds, r, rfl, rfl, ⟨t, rfl, h1, rfl⟩, hq⟩ := hR
  show WS _ _ ⟨[.sh t.d], []⟩ _
  repeat walk_at "e"
  refine ⟨_, _, rfl, ⟨_, ⟨t, rfl, h1, rfl⟩, rfl⟩, rfl, ?_⟩
  repeat walk_at "e"
  rw [Tm.lv_len]
  exact fin_sh rfl hq
end

/-! ### variables -/
section
variable {P : Program} {w : World} {K : PySem.W.Frag} {mg : Str → Option Value} {base : Heap}
def toI : PyData → Option Int
  | .int n => some n
  | _ => none
theorem Tm.lv_ints : ∀ t : Tm, (t.lv.map toI).filterMap _root_.id = t.vs
  | .v n => rfl
  | .z => rfl
  | .s t => by
    show ((PyData.str "s" :: t.lv).map toI).filterMap _root_.id = t.vs
    rw [List.map_cons, List.filterMap_cons]
    exact Tm.lv_ints t
  | .f t u => by
    show ((PyData.str "f" :: (t.lv ++ u.lv)).map toI).filterMap _root_.id = t.vs ++ u.vs
    rw [List.map_cons, List.filterMap_cons, List.map_append, List.filterMap_append, Tm.lv_ints t, Tm.lv_ints u]
    rfl
theorem Tm.lv_kind : ∀ (t : Tm) (d : PyData), d ∈ t.lv → (∃ n, d = .int n) ∨ ∃ x, d = .str x
  | .v n, d, h => .inl ⟨n, List.mem_singleton.mp h⟩
  | .z, d, h => .inr ⟨_, List.mem_singleton.mp h⟩
  | .s t, d, h => by
    rcases List.mem_cons.mp h with h | h
    · exact .inr ⟨_, h⟩
    · exact Tm.lv_kind t d h
  | .f t u, d, h => by
    rcases List.mem_cons.mp h with h | h
    · exact .inr ⟨_, h⟩
    · rcases List.mem_append.mp h with h | h
      · exact Tm.lv_kind t d h
      · exact Tm.lv_kind u d h
def varsF : List PyData → List PyData → Prop := fun ds r => ∃ t : Tm, ds = [t.d] ∧ t.sz < 64 ∧ r = (usort t.vs).map .int
theorem fn_vars {f : Addr} {fd : FuncData} (F : Fun K "variables" "variables" s_variables f fd) (B : Bare mg) (dS : Df P w K mg base "signs_of" 1 p_signs_of (NewR signsF)) : FnOk P w K mg base CX0 2 f fd p_variables (spD K p_variables.length (NewR varsF)) := by
  refine fn_okN F sc_variables nm_variables ns_variables gn_variables (fun X g nm ns gn xs om Qd hl hR => ?_)
  have hr := g.room
  obtain ⟨_, _⟩ := nm
  obtain ⟨g1, g2, _⟩ := gn
  have c2 := g.cf g2 dS.frz
  obtain ⟨ds, r, rfl, rfl, ⟨t, rfl, h1, rfl⟩, hq⟩ := hR
  show WS _ _ ⟨[.sh t.d, .no], []⟩ _
  repeat walk_at "e"
  have b1 := g.bi g1 B.sorted PyProof.Rows.boot_sorted
  refine we_sortScO (own := [("one", 1)]) (g := gName 1) b1 g.nd (g.blk (by decide +kernel)) (fun s H C cl fp => g.bpg (by decide +kernel)) g.calm ?_
  refine wi_list ?_
  repeat walk_at "e"
  refine ⟨_, _, rfl, ⟨_, ⟨t, rfl, by omega, rfl⟩, rfl⟩, rfl, _, _, .sh _, ?_⟩
  refine ⟨by rw [List.length_map, Tm.lv_len]; exact h1, trivial, t.lv.map toI, by rw [List.length_map, List.length_map], fun i y o hy ho => ?_, ?_⟩
  · rw [List.getElem?_map] at hy ho
    obtain ⟨d, hd, rfl⟩ := Option.map_eq_some_iff.mp hy
    rw [hd] at ho
    have ho : some (toI d) = some o := ho
    cases ho
    refine gd_name (by simp) ?_
    intro s H C cl fp
    show WT _ _ ⟨[.sh t.d, .sh d], []⟩ _
    refine g.inBT [("one", 1)] ["isinstance", "int"] (by decide +kernel) (by decide +kernel) fun nb gb => ?_
    obtain ⟨_, _⟩ := nb
    obtain ⟨gb1, gb2, _⟩ := gb
    have bb1 := g.bbi gb1 B.isi PyProof.Rows.boot_isinstance
    have bb2 := g.bbt gb2 B.int PyProof.Rows.boot_int
    rcases Tm.lv_kind t d (List.mem_of_getElem? hd) with ⟨n, rfl⟩ | ⟨x, rfl⟩
    · repeat walk_at "e"
      refine ⟨rfl, rfl, fun m hm s H C cl fp => ?_⟩
      cases hm
      refine g.inB [("one", 1)] [] (by decide +kernel) (by decide +kernel) fun nb gb => ?_
      obtain ⟨_, _⟩ := nb
      repeat walk_at "e"
      exact ⟨rfl, rfl⟩
    · repeat walk_at "e"
      exact ⟨rfl, rfl, fun m hm => by cases hm⟩
  · rw [Tm.lv_ints]
    show Seq X [] _ (.rt _ _)
    refine seq_rt ?_
    exact fin_new (Nat.zero_le _) rfl rfl (by
      rw [List.all_eq_true]
      intro y hy
      obtain ⟨d, _, rfl⟩ := List.mem_map.mp hy
      rfl) hq
end

/-! ### _law_right -/
section
variable {P : Program} {w : World} {K : PySem.W.Frag} {mg : Str → Option Value} {base : Heap}
def rightF : List PyData → PyData → Prop := fun ds r => ∃ t : Tm, ds = [t.d] ∧ t.sz < 64 ∧ r = .bool true
theorem usort_due (n : Int) (ns : List Int) (h : (usort ns).length ≤ 100000) : Pd 2 (.list [.int n, .list ((usort ns).map .int)]) := by
  refine ⟨by simp, fun d hd => ?_⟩
  simp only [List.mem_cons, List.not_mem_nil, or_false] at hd
  rcases hd with rfl | rfl
  · trivial
  · refine ⟨by rw [List.length_map]; exact h, fun d hd => ?_⟩
    obtain ⟨m, _, rfl⟩ := List.mem_map.mp hd
    trivial
theorem Tm.vs_len : ∀ t : Tm, t.vs.length ≤ t.sz
  | .v _ => Nat.le_refl _
  | .z => Nat.zero_le _
  | .s t => Nat.le_trans (Tm.vs_len t) (Nat.le_succ _)
  | .f t u => by
    show (t.vs ++ u.vs).length ≤ t.sz + u.sz + 1
    have h1 := Tm.vs_len t
    have h2 := Tm.vs_len u
    rw [List.length_append]
    omega
def toO : PyData → Option PyData
  | .int n => some (.int n)
  | _ => none
theorem toO_ints (l : List PyData) : (l.map toO).filterMap _root_.id = ((l.map toI).filterMap _root_.id).map .int := by
  induction l with
  | nil => rfl
  | cons a r ih => cases a <;> simp [toO, toI, ih]
theorem fn_right {f : Addr} {fd : FuncData} (F : Fun K "_law_right" "_law_right" s_right f fd) (B : Bare mg) (dL : ∀ n : Nat, Df P w K mg base "_law_leaves" (n + 1) p_leaves (PureR (leavesF n))) (dV : Df P w K mg base "variables" 2 p_variables (NewR varsF)) (dZ : Df P w K mg base "size" 2 p_size (PureR sizeF)) (dS : ∀ n : Nat, Df P w K mg base "_law_same" (n + 1) p_same (PureR (sameF n))) :
    FnOk P w K mg base CX0 65 f fd p_right (spD K p_right.length (PureR rightF)) := by
  refine fn_okN F sc_right nm_right ns_right gn_right (fun X g nm ns gn xs om Qd hl hR => ?_)
  have hr := g.room
  obtain ⟨_, _, _, _, _⟩ := nm
  obtain ⟨_, _, n3, n4, _⟩ := ns
  obtain ⟨g1, g2, g3, g4, g5, g6, g7, _⟩ := gn
  have c1 := g.cf g1 (dL 63)
  have b2 := g.bi g2 B.len PySem.boot_len
  have b4 := g.bt g4 B.set PyProof.Rows.boot_set
  have c6 := g.cf g6 (dS 2)
  have c7 := g.cf g7 dZ
  obtain ⟨ds, r, rfl, rfl, ⟨t, rfl, h1, rfl⟩, hq⟩ := hR
  have hus0 : (usort t.vs).length ≤ 64 := by
    have := usort_len t.vs
    have := Tm.vs_len t
    omega
  have hus : (usort t.vs).length ≤ 100000 := by omega
  show WS _ _ ⟨[.sh t.d, .no, .no, .no, .no], []⟩ _
  repeat walk_at "d"
  refine ⟨_, _, rfl, ⟨t, rfl, by omega, by omega, rfl⟩, rfl, ?_⟩
  repeat walk_at "d"
  have b3 := g.bi g3 B.sorted PyProof.Rows.boot_sorted
  refine we_sortSet b3 b4 g.calm ?_
  clear b3
  refine we_lcF (own := [("_law_one", 4)]) (g := gName 4) g.nd (g.blk (by decide +kernel)) (fun s H C cl fp => g.bpg (by decide +kernel)) ?_ g.calm
  refine wi_list ?_
  repeat walk_at "e"
  refine ⟨_, _, .sh _, ?_⟩
  refine lcd_filter (t.lv.map toO) (by rw [List.length_map, List.length_map]) ?_ trivial (fun i y o hy ho => ?_) ?_
  · rw [List.length_map, Tm.lv_len]
    omega
  · rw [List.getElem?_map] at hy ho
    obtain ⟨d, hd, rfl⟩ := Option.map_eq_some_iff.mp hy
    rw [hd] at ho
    have ho : some (toO d) = some o := ho
    cases ho
    refine gd_name (by simp) ?_
    intro s H C cl fp
    show WT _ _ ⟨[.sh t.d, .sh (.list t.lv), .no, .no, .sh d], []⟩ _
    refine g.inBT [("_law_one", 4)] ["isinstance", "int"] (by decide +kernel) (by decide +kernel) fun nb gb => ?_
    obtain ⟨_, _⟩ := nb
    obtain ⟨gb1, gb2, _⟩ := gb
    have bb1 := g.bbi gb1 B.isi PyProof.Rows.boot_isinstance
    have bb2 := g.bbt gb2 B.int PyProof.Rows.boot_int
    rcases Tm.lv_kind t d (List.mem_of_getElem? hd) with ⟨n, rfl⟩ | ⟨x, rfl⟩
    · repeat walk_at "e"
      refine ⟨rfl, rfl, fun m hm s H C cl fp => ?_⟩
      cases hm
      refine g.inB [("_law_one", 4)] [] (by decide +kernel) (by decide +kernel) fun nb gb => ?_
      obtain ⟨_, _⟩ := nb
      repeat walk_at "e"
      exact ⟨rfl, rfl⟩
    · repeat walk_at "e"
      exact ⟨rfl, rfl, fun m hm => by cases hm⟩
  rw [toO_ints, Tm.lv_ints]
  have hvl := Tm.vs_len t
  refine ⟨_, rfl, by omega, ?_⟩
  repeat walk_at "d"
  have c5 := g.cf g5 dV
  repeat walk_at "d"
  refine ⟨_, _, rfl, ⟨t, rfl, h1, rfl⟩, rfl, ?_⟩
  have e1 : (t.lv.length : Int) = t.sz := by rw [Tm.lv_len]
  rw [e1]
  clear c5
  show Seq X _ _ (.nx ⟨[.sh t.d, .sh (.list t.lv), .sh (.list [.int t.sz, .list ((usort t.vs).map .int)]), .ob 0, .no], [.lst (((usort t.vs).map .int).map .sh)]⟩)
  refine seq_nx ?_
  refine ws_cons ?_
  refine w1_if ?_
  refine wt_lend ?_
  have ev : viewSl [.lst (((usort t.vs).map PyData.int).map .sh)] (.ob 0) = .sh (.list ((usort t.vs).map .int)) := by
    show (match allSh (((usort t.vs).map PyData.int).map .sh) with | some ds => Sl.sh (.list ds) | none => .no) = _
    rw [allSh_map]
  show WT _ _ ⟨[.sh t.d, .sh (.list t.lv), .sh (.list [.int t.sz, .list ((usort t.vs).map .int)]), viewSl [.lst (((usort t.vs).map PyData.int).map .sh)] (.ob 0), .no], []⟩ _
  rw [ev]
  repeat walk_at "d"
  refine ⟨_, _, rfl, ⟨t, rfl, by omega, rfl⟩, rfl, ?_⟩
  repeat walk_at "d"
  refine ⟨_, _, rfl, ⟨_, rfl, usort_due _ _ hus, rfl⟩, rfl, ?_⟩
  repeat walk_at "d"
  have c5 := g.cf g5 dV.frz
  refine ⟨_, _, rfl, ⟨t, rfl, by omega, rfl⟩, rfl, ?_⟩
  repeat walk_at "d"
  refine ⟨_, _, rfl, ⟨_, ⟨t, rfl, h1, rfl⟩, rfl⟩, rfl, ?_⟩
  repeat walk_at "d"
  refine ⟨_, _, rfl, ⟨_, rfl, usort_due _ _ hus, rfl⟩, rfl, ?_⟩
  repeat walk_at "d"
  exact fin_sh rfl hq
end

/-! ### law -/
section
variable {P : Program} {w : World} {K : PySem.W.Frag} {mg : Str → Option Value} {base : Heap}
def lawF : List PyData → PyData → Prop := fun ds r => ∃ ns : List Int, ds = [.list (ns.map .int)] ∧ r = .bool true
theorem fn_law {f : Addr} {fd : FuncData} (F : Fun K "law" "law" s_law f fd) (B : Bare mg) (dB : Df P w K mg base "_law_box" 1 p_box RBox) (dT : Df P w K mg base "_law_take" 1 p_take RTake) (dF : Df P w K mg base "_law_fresh" 2 p_fresh RFresh) (dR : ∀ n : Nat, Df P w K mg base "_law_tree" (n + 3) p_tree (RTree n)) (dZ : Df P w K mg base "size" 2 p_size (PureR sizeF)) (dQ : Df P w K mg base "_law_right" 65 p_right (PureR rightF)) :
    FnOk P w K mg base CX0 66 f fd p_law (spD K p_law.length (PureR lawF)) := by
  refine fn_okN F sc_law nm_law ns_law gn_law (fun X g nm ns gn xs om Qd hl hR => ?_)
  have hr := g.room
  obtain ⟨_, _, _, _, _, _, _, _⟩ := nm
  obtain ⟨_, n2, _, _, n5, _, _, _⟩ := ns
  obtain ⟨g1, g2, g3, g4, g5, g6, g7, g8, g9, _⟩ := gn
  have b2 := g.bi g2 B.min PyProof.Rows.boot_min
  have b3 := g.bi g3 B.len PySem.boot_len
  have c4 := g.cf g4 dB
  have c5 := g.cf g5 dF
  have c6 := g.cf g6 (dR 20)
  have c7 := g.cf g7 dT
  have b8 := g.bi g8 B.all PyProof.Rows.boot_all
  have c9 := g.cf g9 dZ
  obtain ⟨ds, r, rfl, rfl, ⟨ns, rfl, rfl⟩, hq⟩ := hR
  show WS _ _ ⟨[.sh (.list (ns.map .int)), .no, .no, .no, .no, .no, .no, .no], []⟩ _
  refine ws_cons ?_
  refine w1_for (g := gName 1) (vs := [1]) (pgN n2) ?_ g.calm g.po
  refine wi_rng1 g1.g (by rw [g.mg]; exact B.range) ?_
  repeat walk_at "d"
  refine ⟨?_, ?_, fun i z => ∃ (x1 x2 x3 x4 x5 x6 x7 : Sl) (om : List OO), z = ⟨[.sh (.list (ns.map .int)), x1, x2, x3, x4, x5, x6, x7], om⟩, ?_, ?_, ?_, ?_⟩
  · split <;> omega
  · split <;> omega
  · exact ⟨.no, .no, .no, .no, .no, .no, .no, [], rfl⟩
  · exact fun _ _ _ _ => trivial
  · rintro i y z hy ⟨x1, x2, x3, x4, x5, x6, x7, om, rfl⟩
    obtain ⟨hi, rfl⟩ := rngL_get hy
    have hi6 : i < 6 := by
      split at hi <;> omega
    refine gd_name (by simp) ?_
    show WS _ _ ⟨[.sh (.list (ns.map .int)), .sh (.int (0 + (i : Int))), x2, x3, x4, x5, x6, x7], om⟩ _
    refine ws_cons ?_
    walk_at "w1"
    refine we_cG c4 hr (by omega) ?_ rfl rfl
    repeat walk_at "d"
    refine ⟨_, fun y om' => ∃ b : Bx, b.Ok 1000000000 ∧ y = .ob 0 ∧ om' = [b.o], rfl, ⟨ns, _, rfl, rfl, by omega, by omega, fun b hb => ⟨b, hb, rfl, rfl⟩⟩, rfl, ?_⟩
    rintro y om' ⟨b, hok, rfl, rfl⟩
    show Seq X _ _ (.nx ⟨[.sh (.list (ns.map .int)), .sh (.int (0 + (i : Int))), .ob om.length, x3, x4, x5, x6, x7], om ++ [b.o]⟩)
    refine seq_nx ?_
    repeat walk_at "d"
    refine ⟨_, _, _, b, rfl, rfl, get_end _ _, hok.mono (by decide), rfl, rfl, ?_⟩
    rintro d b1 ⟨fs, rfl, hf1, hf2⟩ hb1
    rw [set_end]
    refine seq_nx ?_
    show WS _ _ ⟨[.sh (.list (ns.map .int)), .sh (.int (0 + (i : Int))), .ob om.length, .sh (.list (fs.map .int)), x4, x5, x6, x7], om ++ [b1.o]⟩ _
    refine ws_cons ?_
    refine w1_for (g := gName 4) (vs := [4]) (pgN n5) ?_ g.calm g.po
    refine wi_rng1 g1.g (by rw [g.mg]; exact B.range) ?_
    repeat walk_at "d"
    refine ⟨by decide, by decide, fun j z => ∃ (x4 x5 x6 x7 : Sl) (b' : Bx), z = ⟨[.sh (.list (ns.map .int)), .sh (.int (0 + (i : Int))), .ob om.length, .sh (.list (fs.map .int)), x4, x5, x6, x7], om ++ [b'.o]⟩ ∧ b.Le b' (9 + 60 * j), ?_, ?_, ?_, ?_⟩
    · exact ⟨_, _, _, _, b1, rfl, hb1⟩
    · exact fun _ _ _ _ => trivial
    · rintro j y z hy ⟨x4, x5, x6, x7, b2, rfl, hb2⟩
      obtain ⟨hj, rfl⟩ := rngL_get hy
      have hj4 : j < 4 := hj
      refine gd_name (by simp) ?_
      show WS _ _ ⟨[.sh (.list (ns.map .int)), .sh (.int (0 + (i : Int))), .ob om.length, .sh (.list (fs.map .int)), .sh (.int (0 + (j : Int))), x5, x6, x7], om ++ [b2.o]⟩ _
      repeat walk_at "d"
      refine ⟨_, _, _, b2, rfl, rfl, get_end _ _, hok.after hb2 (k := 1) (by omega), ⟨_, rfl, by decide, by decide⟩, rfl, ?_⟩
      rintro d b3 ⟨q, r1, e1, rfl, hr10, hr11⟩ hb3
      cases e1
      rw [set_end]
      repeat walk_at "d"
      refine ⟨_, _, _, b3, rfl, rfl, get_end _ _, hok.after (hb2.trans hb3) (k := 1) (by omega), ⟨_, rfl, by decide, by decide⟩, rfl, ?_⟩
      rintro d b4 ⟨q, r2, e1, rfl, hr20, hr21⟩ hb4
      cases e1
      rw [set_end]
      obtain ⟨dd, hd1, hd2⟩ := atI_ex (ds := [.list (fs.map .int), .list (fs.map .int), .list []]) hr20 hr21
      obtain ⟨gs, rfl, hg1⟩ : ∃ gs : List Int, dd = .list (gs.map .int) ∧ gs.length ≤ 4 := by
        simp only [List.mem_cons, List.not_mem_nil, or_false] at hd2
        rcases hd2 with rfl | rfl | rfl
        · exact ⟨fs, rfl, hf1⟩
        · exact ⟨fs, rfl, hf1⟩
        · exact ⟨[], rfl, Nat.zero_le _⟩
      refine id_L hd1 ?_
      repeat walk_at "d"
      obtain ⟨k1, rfl⟩ := Int.eq_ofNat_of_zero_le hr10
      have ek1 : (1 : Int) + (k1 : Int) = ((1 + k1 : Nat) : Int) := by omega
      rw [ek1]
      have hb4' := (hb2.trans hb3).trans hb4
      have hk1 : 1 + k1 ≤ 20 := by omega
      refine ⟨_, _, _, b4, rfl, rfl, get_end _ _, hok.after hb4' (k := 1 + k1) (by show 9 + 60 * j + 1 + 1 + (1 + k1) ≤ 1000000000; omega), ⟨1 + k1, gs, rfl, by omega, hk1, by omega, by omega⟩, rfl, ?_⟩
      rintro d b5 ⟨t1, rfl, hs1, hv1⟩ hb5
      have hs1 : t1.sz = 1 + k1 := hs1
      have hb5 : b4.Le b5 (1 + k1) := hb5
      have hb5' := hb4'.trans hb5
      rw [set_end]
      refine seq_nx ?_
      show WS _ _ ⟨[.sh (.list (ns.map .int)), .sh (.int (0 + (i : Int))), .ob om.length, .sh (.list (fs.map .int)), .sh (.int (0 + (j : Int))), .sh t1.d, x6, x7], om ++ [b5.o]⟩ _
      repeat walk_at "d"
      refine ⟨_, _, _, b5, rfl, rfl, get_end _ _, hok.after hb5' (k := 1) (by show 9 + 60 * j + 1 + 1 + (1 + k1) + 1 ≤ 1000000000; omega), ⟨_, rfl, by decide, by decide⟩, rfl, ?_⟩
      rintro d b6 ⟨q, r3, e1, rfl, hr30, hr31⟩ hb6
      cases e1
      have hb6' := hb5'.trans hb6
      rw [set_end]
      obtain ⟨dd, hd3, hd4⟩ := atI_ex (ds := [.int 9, .int 19]) hr30 hr31
      obtain ⟨m, rfl, hm0, hm1⟩ : ∃ m : Int, dd = .int m ∧ 0 < m ∧ m ≤ 19 := by
        simp only [List.mem_cons, List.not_mem_nil, or_false] at hd4
        rcases hd4 with rfl | rfl
        · exact ⟨9, rfl, by decide, by decide⟩
        · exact ⟨19, rfl, by decide, by decide⟩
      refine id_L hd3 ?_
      repeat walk_at "d"
      refine ⟨_, _, _, b6, rfl, rfl, get_end _ _, hok.after hb6' (k := 1) (by show 9 + 60 * j + 1 + 1 + (1 + k1) + 1 + 1 ≤ 1000000000; omega), ⟨_, rfl, hm0, by omega⟩, rfl, ?_⟩
      rintro d b7 ⟨q, r4, e1, rfl, hr40, hr41⟩ hb7
      cases e1
      have hb7' := hb6'.trans hb7
      rw [set_end]
      repeat walk_at "d"
      obtain ⟨k2, rfl⟩ := Int.eq_ofNat_of_zero_le hr40
      have ek2 : (1 : Int) + (k2 : Int) = ((1 + k2 : Nat) : Int) := by omega
      rw [ek2]
      have hk2 : 1 + k2 ≤ 20 := by omega
      refine ⟨_, _, _, b7, rfl, rfl, get_end _ _, hok.after hb7' (k := 1 + k2) (by show 9 + 60 * j + 1 + 1 + (1 + k1) + 1 + 1 + (1 + k2) ≤ 1000000000; omega), ⟨1 + k2, fs, rfl, by omega, hk2, by omega, by omega⟩, rfl, ?_⟩
      rintro d b8 ⟨t2, rfl, hs2, hv2⟩ hb8
      have hs2 : t2.sz = 1 + k2 := hs2
      have hb8 : b7.Le b8 (1 + k2) := hb8
      have hb8' := hb7'.trans hb8
      rw [set_end]
      refine seq_nx ?_
      show WS _ _ ⟨[.sh (.list (ns.map .int)), .sh (.int (0 + (i : Int))), .ob om.length, .sh (.list (fs.map .int)), .sh (.int (0 + (j : Int))), .sh t1.d, .sh t2.d, x7], om ++ [b8.o]⟩ _
      repeat walk_at "d"
      refine we_lcF (own := [("_law_term", 7)]) (g := gName 7) g.nd (g.blk (by decide +kernel)) (fun s H C cl fp => g.bpg (by decide +kernel)) ?_ g.calm
      refine wi_tup ?_
      repeat walk_at "d"
      refine ⟨_, rfl, ?_⟩
      have hts : ∀ t ∈ [t1, t2, .s t1, .f t1 t2, .f t2 t2], Tm.sz t < 64 := by
        intro t ht
        simp only [List.mem_cons, List.not_mem_nil, or_false] at ht
        rcases ht with rfl | rfl | rfl | rfl | rfl <;> (try simp only [Tm.sz]) <;> omega
      show LcD _ _ _ _ _ _ _ _ (([t1, t2, .s t1, .f t1 t2, .f t2 t2].map Tm.d).map .sh) _ _
      refine lcd_map ([true, true, true, true, true].map .bool) rfl (by simp) trivial (fun l y d hy hd => ?_) ?_
      · rw [List.map_map, List.getElem?_map] at hy
        obtain ⟨t, ht, rfl⟩ := Option.map_eq_some_iff.mp hy
        obtain ⟨_, hb, rfl⟩ := List.mem_map.mp (List.mem_of_getElem? hd)
        simp only [List.mem_cons, List.not_mem_nil, or_false, or_self] at hb
        subst hb
        refine gd_name (by simp) ?_
        intro s H C cl fp
        show WE _ _ ⟨[_, _, _, _, _, _, _, .sh t.d], _⟩ _
        refine g.inB [("_law_term", 7)] ["_law_right"] (by decide +kernel) (by decide +kernel) fun nb gb => ?_
        obtain ⟨_, _⟩ := nb
        have cs := g.bcf gb.1 dQ
        repeat walk_at "d"
        exact ⟨_, _, rfl, ⟨t, rfl, hts t (List.mem_of_getElem? ht), rfl⟩, rfl, rfl, rfl⟩
      · repeat walk_at "d"
        refine cd_all (bs := [true, true, true, true, true]) rfl ?_ g.calm
        repeat walk_at "d"
        have hz1 : (Tm.s t1).sz = t1.sz + 1 := rfl
        have hz2 : (Tm.f t1 t2).sz = t1.sz + t2.sz + 1 := rfl
        refine ⟨_, _, rfl, ⟨.s t1, rfl, by omega, rfl⟩, rfl, ?_⟩
        repeat walk_at "d"
        refine ⟨_, _, rfl, ⟨t1, rfl, by omega, rfl⟩, rfl, ?_⟩
        repeat walk_at "d"
        refine ⟨fun h => ?_, fun h => ?_⟩
        · rw [Bool.not_eq_true', decide_eq_false_iff_not] at h
          omega
        repeat walk_at "d"
        refine ⟨_, _, rfl, ⟨.f t1 t2, rfl, by omega, rfl⟩, rfl, ?_⟩
        repeat walk_at "d"
        refine ⟨_, _, rfl, ⟨t1, rfl, by omega, rfl⟩, rfl, ?_⟩
        repeat walk_at "d"
        refine ⟨_, _, rfl, ⟨t2, rfl, by omega, rfl⟩, rfl, ?_⟩
        repeat walk_at "d"
        refine ⟨fun h => ?_, fun h => ?_⟩
        · rw [Bool.not_eq_true', decide_eq_false_iff_not] at h
          omega
        repeat walk_at "d"
        exact loop_nx ⟨_, _, _, _, b8, rfl, hb8'.mono (by omega)⟩
    · rintro z ⟨x4, x5, x6, x7, b', rfl, _⟩
      repeat walk_at "d"
      exact loop_nx ⟨_, _, _, _, _, _, _, _, rfl⟩
  · rintro z ⟨x1, x2, x3, x4, x5, x6, x7, om, rfl⟩
    repeat walk_at "d"
    exact fin_sh rfl hq
end

/-! ### the head: facts by names, the run -/
def d_signs_of : He.DefD := ⟨("signs_of", none), "signs_of", "signs_of", defArgs s_signs_of, defBody s_signs_of, defScope s_signs_of, [], []⟩
def d_variables : He.DefD := ⟨("variables", none), "variables", "variables", defArgs s_variables, defBody s_variables, defScope s_variables, [], []⟩
def d_size : He.DefD := ⟨("size", none), "size", "size", defArgs s_size, defBody s_size, defScope s_size, [], []⟩
def d_box : He.DefD := ⟨("_law_box", none), "_law_box", "_law_box", defArgs s_box, defBody s_box, defScope s_box, [], []⟩
def d_take : He.DefD := ⟨("_law_take", none), "_law_take", "_law_take", defArgs s_take, defBody s_take, defScope s_take, [], []⟩
def d_pick : He.DefD := ⟨("_law_pick", none), "_law_pick", "_law_pick", defArgs s_pick, defBody s_pick, defScope s_pick, [], []⟩
def d_same : He.DefD := ⟨("_law_same", none), "_law_same", "_law_same", defArgs s_same, defBody s_same, defScope s_same, [], []⟩
def d_tree : He.DefD := ⟨("_law_tree", none), "_law_tree", "_law_tree", defArgs s_tree, defBody s_tree, defScope s_tree, [], []⟩
def d_fresh : He.DefD := ⟨("_law_fresh", none), "_law_fresh", "_law_fresh", defArgs s_fresh, defBody s_fresh, defScope s_fresh, [], []⟩
def d_leaves : He.DefD := ⟨("_law_leaves", none), "_law_leaves", "_law_leaves", defArgs s_leaves, defBody s_leaves, defScope s_leaves, [], []⟩
def d_right : He.DefD := ⟨("_law_right", none), "_law_right", "_law_right", defArgs s_right, defBody s_right, defScope s_right, [], []⟩
def d_law : He.DefD := ⟨("law", none), "law", "law", defArgs s_law, defBody s_law, defScope s_law, [], []⟩
def fn : List He.DefD := [d_signs_of, d_variables, d_size, d_box, d_take, d_pick, d_same, d_tree, d_fresh, d_leaves, d_right, d_law]
def fa : List He.Fa := [.glo "signs_of", .glo "variables", .glo "size", .glo "_law_box", .glo "_law_take", .glo "_law_pick", .glo "_law_same", .glo "_law_tree", .glo "_law_fresh", .glo "_law_leaves", .glo "_law_right", .glo "law", .free "len", .free "abs", .free "int", .free "isinstance", .free "list", .free "tuple", .free "str", .free "bool", .free "all", .free "any", .free "zip", .free "range", .free "min", .free "max", .free "sorted", .free "set", .free "dict", .free "repr"]
abbrev R : PySem.W.OpenRow := PySem.W.OpenLaw.row PySem.Challenge.rw_ringproofs_k03_variables_and_sizes
abbrev hk : PySem.W.Hook := He.hookD 4 fa fn
def ob (s : PySem.W.SharedT) : He.AlD := He.obsDG 4 fa fn (HandSHeadRun.getT s)
theorem ob_eq (s : PySem.W.SharedT) : ob s = hk.obs s.abs := He.obsDG_eq (HandSHeadRun.getT_eq s)
theorem run (w : World) : HandSHeadRun.RunEq R (PySem.W.view R.prog [13]) hk ob 4000 ["signs_of", "variables", "size", "_law_box", "_law_take", "_law_pick", "_law_same", "_law_tree", "_law_fresh", "_law_leaves", "_law_right"] w := by
  intro os
  kernel_rfl
section
variable {K : PySem.W.Frag} {h : Heap} {mg : Str → Option Value}
theorem bare_of (X : K.In h) (G : h.Ns mainGlobals mg) (c : He.SaysD fa fn K) : Bare mg where
  len := He.free_ok X G (c.fact 12 (f := .free "len") rfl)
  abs := He.free_ok X G (c.fact 13 (f := .free "abs") rfl)
  int := He.free_ok X G (c.fact 14 (f := .free "int") rfl)
  isi := He.free_ok X G (c.fact 15 (f := .free "isinstance") rfl)
  list := He.free_ok X G (c.fact 16 (f := .free "list") rfl)
  tup := He.free_ok X G (c.fact 17 (f := .free "tuple") rfl)
  str := He.free_ok X G (c.fact 18 (f := .free "str") rfl)
  bool := He.free_ok X G (c.fact 19 (f := .free "bool") rfl)
  all := He.free_ok X G (c.fact 20 (f := .free "all") rfl)
  any := He.free_ok X G (c.fact 21 (f := .free "any") rfl)
  zip := He.free_ok X G (c.fact 22 (f := .free "zip") rfl)
  range := He.free_ok X G (c.fact 23 (f := .free "range") rfl)
  min := He.free_ok X G (c.fact 24 (f := .free "min") rfl)
  max := He.free_ok X G (c.fact 25 (f := .free "max") rfl)
  sorted := He.free_ok X G (c.fact 26 (f := .free "sorted") rfl)
  set := He.free_ok X G (c.fact 27 (f := .free "set") rfl)
  dict := He.free_ok X G (c.fact 28 (f := .free "dict") rfl)
  repr := He.free_ok X G (c.fact 29 (f := .free "repr") rfl)
theorem glo_signs_of (X : K.In h) (G : h.Ns mainGlobals mg) (c : He.SaysD fa fn K) : mg "signs_of" = some (.ref (He.ga K "signs_of")) := He.glo_ok X G (c.fact 0 (f := .glo "signs_of") rfl)
theorem fun_signs_of (c : He.SaysD fa fn K) : ∃ fd, Fun (thin K) "signs_of" "signs_of" s_signs_of (He.ga K "signs_of") fd ∧ Binds (thin K) fd p_signs_of [] := by
  obtain ⟨fd, F⟩ := c.def_ 0 (d := d_signs_of) rfl
  have F2 := thin_fun (st := s_signs_of) F
  exact ⟨fd, F2, F2.binds fun _ _ _ _ _ _ us hl => match us, hl with | [_], _ => rfl⟩
theorem glo_variables (X : K.In h) (G : h.Ns mainGlobals mg) (c : He.SaysD fa fn K) : mg "variables" = some (.ref (He.ga K "variables")) := He.glo_ok X G (c.fact 1 (f := .glo "variables") rfl)
theorem fun_variables (c : He.SaysD fa fn K) : ∃ fd, Fun (thin K) "variables" "variables" s_variables (He.ga K "variables") fd ∧ Binds (thin K) fd p_variables [] := by
  obtain ⟨fd, F⟩ := c.def_ 1 (d := d_variables) rfl
  have F2 := thin_fun (st := s_variables) F
  exact ⟨fd, F2, F2.binds fun _ _ _ _ _ _ us hl => match us, hl with | [_], _ => rfl⟩
theorem glo_size (X : K.In h) (G : h.Ns mainGlobals mg) (c : He.SaysD fa fn K) : mg "size" = some (.ref (He.ga K "size")) := He.glo_ok X G (c.fact 2 (f := .glo "size") rfl)
theorem fun_size (c : He.SaysD fa fn K) : ∃ fd, Fun (thin K) "size" "size" s_size (He.ga K "size") fd ∧ Binds (thin K) fd p_size [] := by
  obtain ⟨fd, F⟩ := c.def_ 2 (d := d_size) rfl
  have F2 := thin_fun (st := s_size) F
  exact ⟨fd, F2, F2.binds fun _ _ _ _ _ _ us hl => match us, hl with | [_], _ => rfl⟩
theorem glo_box (X : K.In h) (G : h.Ns mainGlobals mg) (c : He.SaysD fa fn K) : mg "_law_box" = some (.ref (He.ga K "_law_box")) := He.glo_ok X G (c.fact 3 (f := .glo "_law_box") rfl)
theorem fun_box (c : He.SaysD fa fn K) : ∃ fd, Fun (thin K) "_law_box" "_law_box" s_box (He.ga K "_law_box") fd ∧ Binds (thin K) fd p_box [] := by
  obtain ⟨fd, F⟩ := c.def_ 3 (d := d_box) rfl
  have F2 := thin_fun (st := s_box) F
  exact ⟨fd, F2, F2.binds fun _ _ _ _ _ _ us hl => match us, hl with | [_, _], _ => rfl⟩
theorem glo_take (X : K.In h) (G : h.Ns mainGlobals mg) (c : He.SaysD fa fn K) : mg "_law_take" = some (.ref (He.ga K "_law_take")) := He.glo_ok X G (c.fact 4 (f := .glo "_law_take") rfl)
theorem fun_take (c : He.SaysD fa fn K) : ∃ fd, Fun (thin K) "_law_take" "_law_take" s_take (He.ga K "_law_take") fd ∧ Binds (thin K) fd p_take [] := by
  obtain ⟨fd, F⟩ := c.def_ 4 (d := d_take) rfl
  have F2 := thin_fun (st := s_take) F
  exact ⟨fd, F2, F2.binds fun _ _ _ _ _ _ us hl => match us, hl with | [_, _], _ => rfl⟩
theorem glo_pick (X : K.In h) (G : h.Ns mainGlobals mg) (c : He.SaysD fa fn K) : mg "_law_pick" = some (.ref (He.ga K "_law_pick")) := He.glo_ok X G (c.fact 5 (f := .glo "_law_pick") rfl)
theorem fun_pick (c : He.SaysD fa fn K) : ∃ fd, Fun (thin K) "_law_pick" "_law_pick" s_pick (He.ga K "_law_pick") fd ∧ Binds (thin K) fd p_pick [] := by
  obtain ⟨fd, F⟩ := c.def_ 5 (d := d_pick) rfl
  have F2 := thin_fun (st := s_pick) F
  exact ⟨fd, F2, F2.binds fun _ _ _ _ _ _ us hl => match us, hl with | [_, _], _ => rfl⟩
theorem glo_same (X : K.In h) (G : h.Ns mainGlobals mg) (c : He.SaysD fa fn K) : mg "_law_same" = some (.ref (He.ga K "_law_same")) := He.glo_ok X G (c.fact 6 (f := .glo "_law_same") rfl)
theorem fun_same (c : He.SaysD fa fn K) : ∃ fd, Fun (thin K) "_law_same" "_law_same" s_same (He.ga K "_law_same") fd ∧ Binds (thin K) fd p_same [] := by
  obtain ⟨fd, F⟩ := c.def_ 6 (d := d_same) rfl
  have F2 := thin_fun (st := s_same) F
  exact ⟨fd, F2, F2.binds fun _ _ _ _ _ _ us hl => match us, hl with | [_, _], _ => rfl⟩
theorem glo_tree (X : K.In h) (G : h.Ns mainGlobals mg) (c : He.SaysD fa fn K) : mg "_law_tree" = some (.ref (He.ga K "_law_tree")) := He.glo_ok X G (c.fact 7 (f := .glo "_law_tree") rfl)
theorem fun_tree (c : He.SaysD fa fn K) : ∃ fd, Fun (thin K) "_law_tree" "_law_tree" s_tree (He.ga K "_law_tree") fd ∧ Binds (thin K) fd p_tree [] := by
  obtain ⟨fd, F⟩ := c.def_ 7 (d := d_tree) rfl
  have F2 := thin_fun (st := s_tree) F
  exact ⟨fd, F2, F2.binds fun _ _ _ _ _ _ us hl => match us, hl with | [_, _, _], _ => rfl⟩
theorem glo_fresh (X : K.In h) (G : h.Ns mainGlobals mg) (c : He.SaysD fa fn K) : mg "_law_fresh" = some (.ref (He.ga K "_law_fresh")) := He.glo_ok X G (c.fact 8 (f := .glo "_law_fresh") rfl)
theorem fun_fresh (c : He.SaysD fa fn K) : ∃ fd, Fun (thin K) "_law_fresh" "_law_fresh" s_fresh (He.ga K "_law_fresh") fd ∧ Binds (thin K) fd p_fresh [] := by
  obtain ⟨fd, F⟩ := c.def_ 8 (d := d_fresh) rfl
  have F2 := thin_fun (st := s_fresh) F
  exact ⟨fd, F2, F2.binds fun _ _ _ _ _ _ us hl => match us, hl with | [_], _ => rfl⟩
theorem glo_leaves (X : K.In h) (G : h.Ns mainGlobals mg) (c : He.SaysD fa fn K) : mg "_law_leaves" = some (.ref (He.ga K "_law_leaves")) := He.glo_ok X G (c.fact 9 (f := .glo "_law_leaves") rfl)
theorem fun_leaves (c : He.SaysD fa fn K) : ∃ fd, Fun (thin K) "_law_leaves" "_law_leaves" s_leaves (He.ga K "_law_leaves") fd ∧ Binds (thin K) fd p_leaves [] := by
  obtain ⟨fd, F⟩ := c.def_ 9 (d := d_leaves) rfl
  have F2 := thin_fun (st := s_leaves) F
  exact ⟨fd, F2, F2.binds fun _ _ _ _ _ _ us hl => match us, hl with | [_], _ => rfl⟩
theorem glo_right (X : K.In h) (G : h.Ns mainGlobals mg) (c : He.SaysD fa fn K) : mg "_law_right" = some (.ref (He.ga K "_law_right")) := He.glo_ok X G (c.fact 10 (f := .glo "_law_right") rfl)
theorem fun_right (c : He.SaysD fa fn K) : ∃ fd, Fun (thin K) "_law_right" "_law_right" s_right (He.ga K "_law_right") fd ∧ Binds (thin K) fd p_right [] := by
  obtain ⟨fd, F⟩ := c.def_ 10 (d := d_right) rfl
  have F2 := thin_fun (st := s_right) F
  exact ⟨fd, F2, F2.binds fun _ _ _ _ _ _ us hl => match us, hl with | [_], _ => rfl⟩
theorem glo_law (X : K.In h) (G : h.Ns mainGlobals mg) (c : He.SaysD fa fn K) : mg "law" = some (.ref (He.ga K "law")) := He.glo_ok X G (c.fact 11 (f := .glo "law") rfl)
theorem fun_law (c : He.SaysD fa fn K) : ∃ fd, Fun (thin K) "law" "law" s_law (He.ga K "law") fd ∧ Binds (thin K) fd p_law [] := by
  obtain ⟨fd, F⟩ := c.def_ 11 (d := d_law) rfl
  have F2 := thin_fun (st := s_law) F
  exact ⟨fd, F2, F2.binds fun _ _ _ _ _ _ us hl => match us, hl with | [_], _ => rfl⟩
end

abbrev most : Nat := 63
abbrev depth : Nat := 66
theorem facts {P : Program} {w : World} {K : PySem.W.Frag} {h : Heap} {mg : Str → Option Value} {f : Addr} (X : K.In h) (G : h.Ns mainGlobals mg) (hfa : mg ("law" : Str) = some (.ref f)) (c : He.SaysD fa fn K) :
    ∃ fd : FuncData, (∀ (s : Shared) (v : Value), BindsTo s fd ⟨[v], []⟩ [("_law_script", v)]) ∧ (∀ (H : Hp) (a : Addr) (ns : List Int), ns.length ≤ most → Only H → SqL (thin K) H a (ns.map V.int) → spD (thin K) 1 (PureR lawF) [.ref a] H (fun v _ => v = .bl true) fun _ _ _ => False) ∧
      ∀ base : Heap, (thin K).In base → base.Ns mainGlobals mg → FnOk P w (thin K) mg base CX0 depth f fd ["_law_script"] (spD (thin K) 1 (PureR lawF)) := by
  have e := hfa.symm.trans (glo_law X G c)
  cases e
  obtain ⟨fd, F⟩ := c.def_ 11 (d := d_law) rfl
  have bA := FunD.bindsA (ps := ["_law_script"]) F fun _ _ _ _ _ _ us hl => match us, hl with | [_], _ => rfl
  refine ⟨fd, fun s v => bA s [v] rfl, fun H a ns _ _ hS => sp_script hS ⟨ns, rfl, rfl⟩, fun base _ _ => ?_⟩
  have FL := thin_fun (st := s_law) F
  have B := bare_of X G c
  obtain ⟨_, F1, b1⟩ := fun_signs_of c
  obtain ⟨_, F2, b2⟩ := fun_variables c
  obtain ⟨_, F3, b3⟩ := fun_size c
  obtain ⟨_, F4, b4⟩ := fun_box c
  obtain ⟨_, F5, b5⟩ := fun_take c
  obtain ⟨_, F6, b6⟩ := fun_pick c
  obtain ⟨_, F7, b7⟩ := fun_same c
  obtain ⟨_, F8, b8⟩ := fun_tree c
  obtain ⟨_, F9, b9⟩ := fun_fresh c
  obtain ⟨_, F10, b10⟩ := fun_leaves c
  obtain ⟨_, F11, b11⟩ := fun_right c
  have dS : Df P w (thin K) mg base "signs_of" 1 p_signs_of (NewR signsF) := ⟨_, _, fn_signs F1 B, glo_signs_of X G c, F1.kp, b1⟩
  have dV : Df P w (thin K) mg base "variables" 2 p_variables (NewR varsF) := ⟨_, _, fn_vars F2 B dS, glo_variables X G c, F2.kp, b2⟩
  have dZ : Df P w (thin K) mg base "size" 2 p_size (PureR sizeF) := ⟨_, _, fn_size F3 B dS, glo_size X G c, F3.kp, b3⟩
  have dB : Df P w (thin K) mg base "_law_box" 1 p_box RBox := ⟨_, _, fn_box F4 B, glo_box X G c, F4.kp, b4⟩
  have dT : Df P w (thin K) mg base "_law_take" 1 p_take RTake := ⟨_, _, fn_take F5, glo_take X G c, F5.kp, b5⟩
  have dP : Df P w (thin K) mg base "_law_pick" 2 p_pick RPick := ⟨_, _, fn_pick F6 B dT, glo_pick X G c, F6.kp, b6⟩
  have dM := fn_same (P := P) (w := w) (base := base) F7 (glo_same X G c) b7 B
  have dR := fn_tree (P := P) (w := w) (base := base) F8 (glo_tree X G c) b8 B dT dP
  have dF : Df P w (thin K) mg base "_law_fresh" 2 p_fresh RFresh := ⟨_, _, fn_fresh F9 B dT, glo_fresh X G c, F9.kp, b9⟩
  have dL := fn_leaves (P := P) (w := w) (base := base) F10 (glo_leaves X G c) b10 B
  have dQ : Df P w (thin K) mg base "_law_right" 65 p_right (PureR rightF) := ⟨_, _, fn_right F11 B dL dV dZ dM, glo_right X G c, F11.kp, b11⟩
  exact fn_law FL B dB dT dF dR dZ dQ

end K03
open PySem PySem.W PySem.Calls PyProof.Rows
set_option maxHeartbeats 0 in
theorem PySem.Challenge.cw_ringproofs_k03_variables_and_sizes_holds : PySem.Challenge.rw_ringproofs_k03_variables_and_sizes.Holds := by
  w_on; o_law
  refine HandSHeadRun.head_any (r := OpenLaw.row PySem.Challenge.rw_ringproofs_k03_variables_and_sizes) (q := view (OpenLaw.row PySem.Challenge.rw_ringproofs_k03_variables_and_sizes).prog [13]) (H := K03.hk) (ob := K03.ob) (M := 4000) (loose := ["signs_of", "variables", "size", "_law_box", "_law_take", "_law_pick", "_law_same", "_law_tree", "_law_fresh", "_law_leaves", "_law_right"]) (d := HandSHeadRun.topDef (OpenLaw.row PySem.Challenge.rw_ringproofs_k03_variables_and_sizes).prog 13) (kwd := []) K03.ob_eq
    (by kernel_rfl) (fun s => by kernel_rfl) K03.run (by kernel_rfl) (by kernel_rfl) (by kernel_rfl) (by rfl) (by first | assumption | decide +kernel) (by decide +kernel) ⟨rfl, rfl, rfl, rfl, rfl, by decide +kernel⟩ ?hw ?hc
  case hw => w_witness2
  case hc =>
    refine L2.walk_ofE (l := PySem.Challenge.rw_ringproofs_k03_variables_and_sizes) (n := K03.most) (k := K03.depth) (x := "_law_script") (CX := L2.CX0) rfl (by decide) (by kernel_rfl) ⟨rfl, by decide, by decide⟩ ?F (fun _ _ _ _ z => z)
    intro w mg fa h Y G hmg0
    obtain ⟨K, KX, c⟩ := Y
    have hmg : mg ("law" : PySem.Str) = some (.ref fa) := by
      have e : (HandSHeadRun.topDef (OpenLaw.row PySem.Challenge.rw_ringproofs_k03_variables_and_sizes).prog 13).name = ("law" : PySem.Str) := by kernel_rfl
      rw [← e]
      exact hmg0
    obtain ⟨fd, hb, hsp, hF⟩ := K03.facts (P := (PySem.Challenge.rw_ringproofs_k03_variables_and_sizes).prog) (w := w) KX G hmg c
    exact ⟨Dl.thin K, fd, _, Dl.thin_in KX, hb, hsp, hF⟩
