import PyProof.Rows.All
import Wide.All
import OpenK.AllK
import Wide.FinOn
import HandS.ForMost
import HandS.TupAny
import HandS.Walk
import HandS.HeadEnd
import HandS.IsInst
import HandS.Zip
import KE.KRevSl
import HandS.SetBool
import HandS.SetFor
import HandS.Strs
import HandS.Comp
import HandS.Defaults
import HandS.HeadHook2
import KE.KUnpackStar
import HandS.More
import HandS.HeadHook3
import HandS.Style
import HandS.HeadHook4
import KE.KDictPairs
import HandS.TupMul
import HandS.Conv
import HandS.Head0
import HandS.Head1
import HandS.Head2
import PySem.Challenge.RW_ringproofs_k09_what_names_atoms_and_rule
set_option Elab.async false
set_option linter.all false
set_option maxRecDepth 100000
set_option maxHeartbeats 0
/-! Dl: a layer over HandS in which a def is walked over plain data (PyData) and a store of mutable objects, with no heap in sight. -/
namespace Dl
open PySem PySem.Spec L2
open PyProof.Rows hiding St

/-! ### best readings -/
section
variable {X : Cx} {e a b : Expr} {σ : St} {H : Hp}
def tE (X : Cx) (e : Expr) : TE := fun σ H Q => ∀ (pins : List (Addr × Obj)) (s : Shared), Inv X pins σ H s → wpAny (model X.prog X.w) X.A (eval e X.env) (EP X pins σ Q) X.xe s
theorem peB : PE X e (tE X e) := ⟨fun pins s _ _ _ I h => h pins s I⟩
theorem tE_of {t : TE} {Q : VK} (p : PE X e t) (h : t σ H Q) : tE X e σ H Q := fun pins s I => p.run pins s σ H Q I h
theorem tE_mono {Q Q' : VK} (h : tE X e σ H Q) (q : ∀ v H', Q v H' → Q' v H') : tE X e σ H Q' := fun pins s I =>
  thn (h pins s I) fun _ _ ⟨v, H', I', r, z⟩ => ⟨v, H', I', r, q v H' z⟩
def tT (X : Cx) (e : Expr) : TT := fun σ H Q => ∀ (pins : List (Addr × Obj)) (s : Shared), Inv X pins σ H s → wpAny (model X.prog X.w) X.A (isTrue e X.env (eval e X.env)) (TP X pins σ Q) X.xe s
theorem ptB : PT X e (tT X e) := ⟨fun pins s _ _ _ I h => h pins s I⟩
theorem tT_of {t : TT} {Q : Bool → Hp → Prop} (p : PT X e t) (h : t σ H Q) : tT X e σ H Q := fun pins s I => p.run pins s σ H Q I h
theorem tT_mono {Q Q' : Bool → Hp → Prop} (h : tT X e σ H Q) (q : ∀ v H', Q v H' → Q' v H') : tT X e σ H Q' := fun pins s I =>
  thn (h pins s I) fun _ _ ⟨H', I', z⟩ => ⟨H', I', q _ H' z⟩
def tWh (X : Cx) (e : Expr) : TT := fun σ H Q => ∀ (whole : Sem Value) (pins : List (Addr × Obj)) (s : Shared), Inv X pins σ H s → wpAny (model X.prog X.w) X.A (isTrue e X.env whole) (TP X pins σ Q) X.xe s
theorem pwB : PW X e (tWh X e) := ⟨fun wh pins s _ _ _ I h => h wh pins s I⟩
theorem tWh_of {t : TT} {Q : Bool → Hp → Prop} (p : PW X e t) (h : t σ H Q) : tWh X e σ H Q := fun wh pins s I => p.run wh pins s σ H Q I h
def tA (X : Cx) (es : List Expr) : TA := fun σ H Q => ∀ (pos : Pos) (pins : List (Addr × Obj)) (s : Shared), Inv X pins σ H s → wpAny (model X.prog X.w) X.A (spliced (backTo pos (starEach es X.env))) (AP X pins σ Q) X.xe s
theorem paB {es : List Expr} : PA X es (tA X es) := ⟨fun pos pins s _ _ _ I h => h pos pins s I⟩
theorem tA_of {es : List Expr} {t : TA} {Q : List V → Hp → Prop} (p : PA X es t) (h : t σ H Q) : tA X es σ H Q := fun pos pins s I => p.run pos pins s σ H Q I h
theorem tA_mono {es : List Expr} {Q Q' : List V → Hp → Prop} (h : tA X es σ H Q) (q : ∀ v H', Q v H' → Q' v H') : tA X es σ H Q' := fun pos pins s I =>
  thn (h pos pins s I) fun _ _ ⟨v, H', I', r, z⟩ => ⟨v, H', I', r, q v H' z⟩
def tS (X : Cx) (st : Stmt) : TS := fun D σ H => ∀ (pins : List (Addr × Obj)) (s : Shared), Inv X pins σ H s → wpAny (model X.prog X.w) X.A (exec st X.env) (SP X pins D) X.xe s
theorem psB {st : Stmt} : PS X st (tS X st) := ⟨fun pins s _ _ _ I h => h pins s I⟩
theorem tS_of {st : Stmt} {t : TS} {D : Ends} (p : PS X st t) (h : t D σ H) : tS X st D σ H := fun pins s I => p.run pins s σ H D I h
def tSs (X : Cx) (st : List Stmt) : TS := fun D σ H => ∀ (pins : List (Addr × Obj)) (s : Shared), Inv X pins σ H s → wpAny (model X.prog X.w) X.A (execs st X.env) (SP X pins D) X.xe s
theorem pssB {st : List Stmt} : PSs X st (tSs X st) := ⟨fun pins s _ _ _ I h => h pins s I⟩
theorem tSs_of {st : List Stmt} {t : TS} {D : Ends} (p : PSs X st t) (h : t D σ H) : tSs X st D σ H := fun pins s I => p.run pins s σ H D I h
/-- operations by values -/
def rB (X : Cx) (f : Value → Value → Sem Value) : R2 := fun x y H Q => ∀ (pins : List (Addr × Obj)) (s : Shared) (σ : St) (v u : Value), Inv X pins σ H s → RelV x v → RelV y u → wpAny (model X.prog X.w) X.A (f v u) (EP X pins σ Q) X.xe s
theorem rB_op {f : Value → Value → Sem Value} : OpR X f (rB X f) := fun pins s σ _ _ _ v u _ I rx ry h => h pins s σ v u I rx ry
theorem rB_of {f : Value → Value → Sem Value} {r : R2} {x y : V} {Q : VK} (o : OpR X f r) (h : r x y H Q) : rB X f x y H Q := fun pins s σ v u I rx ry => o pins s σ H x y v u Q I rx ry h
def uB (X : Cx) (f : Value → Sem Value) : V → Hp → VK → Prop := fun x H Q => ∀ (pins : List (Addr × Obj)) (s : Shared) (σ : St) (v : Value), Inv X pins σ H s → RelV x v → wpAny (model X.prog X.w) X.A (f v) (EP X pins σ Q) X.xe s
theorem uB_op {f : Value → Sem Value} : UnR X f (uB X f) := fun pins s σ _ _ v _ I rx h => h pins s σ v I rx
theorem uB_of {f : Value → Sem Value} {r : V → Hp → VK → Prop} {x : V} {Q : VK} (o : UnR X f r) (h : r x H Q) : uB X f x H Q := fun pins s σ v I rx => o pins s σ H x v Q I rx h
def cB (X : Cx) (f : Value) : List V → Hp → VK → Prop := fun xs H Q => ∀ (pins : List (Addr × Obj)) (s : Shared) (σ : St) (us : List Value), Inv X pins σ H s → Vals xs us → wpAny (model X.prog X.w) X.A (call f us) (EP X pins σ Q) X.xe s
theorem cB_op {f : Value} : CallR X f (cB X f) := fun pins s σ _ _ us _ I rx h => h pins s σ us I rx
theorem cB_of {f : Value} {r : List V → Hp → VK → Prop} {xs : List V} {Q : VK} (o : CallR X f r) (h : r xs H Q) : cB X f xs H Q := fun pins s σ us I rx => o pins s σ H xs us Q I rx h
def mB (X : Cx) (id : String) : V → List V → Hp → VK → Prop := fun x xs H Q => ∀ (pins : List (Addr × Obj)) (s : Shared) (σ : St) (v : Value) (us : List Value), Inv X pins σ H s → RelV x v → Vals xs us → wpAny (model X.prog X.w) X.A (call (.builtin id) (v :: us)) (EP X pins σ Q) X.xe s
theorem mB_op {id : String} : MtR X id (mB X id) := fun pins s σ _ _ _ v us _ I rx rs h => h pins s σ v us I rx rs
theorem mB_of {id : String} {r : V → List V → Hp → VK → Prop} {x : V} {xs : List V} {Q : VK} (o : MtR X id r) (h : r x xs H Q) : mB X id x xs H Q := fun pins s σ v us I rx rs => o pins s σ H x xs v us Q I rx rs h
end

/-! ### tuples known to have no dict -/
section
variable {X : Cx} {es : List Expr} {t : TA} {pos : Pos}
def PlT (K : PySem.W.Frag) (H : Hp) (a : Addr) (xs : List V) : Prop := (∃ o, H a = some (.frz o (.tup xs)) ∧ o.dict = none) ∨
  ∃ (o : Obj) (its : Array Value) (n : Nat), K.lookup a = some o ∧ o.cls = .type "tuple" ∧ o.dict = none ∧ o.data = .seq its n ∧ its.size ≤ sizeLine ∧ Vals xs its.toList
theorem PlT.sq {K : PySem.W.Frag} {H : Hp} {a : Addr} {xs : List V} (h : PlT K H a xs) : SqT K H a xs := by
  rcases h with ⟨o, h, _⟩ | ⟨o, its, n, h1, h2, _, h3⟩
  · exact .inl (.inr ⟨o, h⟩)
  · exact .inr ⟨o, its, n, h1, h2, h3⟩
theorem laidP {pins : List (Addr × Obj)} {σ : St} {H : Hp} {s : Shared} {xs : List V} {us : List Value} (I : Inv X pins σ H s) (r : Vals xs us) (z : xs.length ≤ sizeLine) :
    Inv X pins σ (upd H s.heap.objs.size (.frz { cls := .type "tuple", data := .seq us.toArray } (.tup xs))) { s with heap := s.heap.push { cls := .type "tuple", data := .seq us.toArray } } :=
  I.laid (t' := s.toks) (fun b u e => Heap.get?_push_of_some _ e) (Nat.le_refl _) ⟨Heap.get?_push_size _ rfl, z, us, r, ⟨_, Heap.get?_push_size _ rfl, rfl, _, rfl⟩⟩
def tTupP (t : TA) : TE := fun σ H Q => t σ H fun xs H1 => xs.length ≤ sizeLine ∧ ∀ p o, H1 p = none → o.dict = none → Q (.ref p) (upd H1 p (.frz o (.tup xs)))
theorem pe_tupP {x1} (h : PA X es t) : PE X (.Tuple es x1 pos) (tTupP t) := by
  refine ⟨fun pins s σ H Q I hq => ?_⟩
  refine wpAny_Tuple_spliced (thn (h.run pos pins s σ H _ I hq) fun us s1 ⟨xs, H1, I1, r, z, q⟩ => ⟨by rw [← r.length]; exact z, ?_⟩)
  exact ⟨.ref s1.heap.objs.size, _, laidP I1 r z, rfl, q _ _ (I1.hok.fresh (Nat.le_refl _)) rfl⟩
theorem call_tupleP : CallR X (.type "tuple") (fun xs H Q => ∃ p ys, xs = [.ref p] ∧ ((SqL X.K H p ys ∧ ∀ l o, H l = none → o.dict = none → Q (.ref l) (upd H l (.frz o (.tup ys)))) ∨ (SqT X.K H p ys ∧ Q (.ref p) H))) := by
  intro pins s σ H xs us Q I r h
  obtain ⟨p, ys, rfl, h⟩ := h
  obtain ⟨u, rfl, rx⟩ := vals1 r
  cases rx
  rcases h with ⟨hq, q⟩ | ⟨hq, q⟩
  · obtain ⟨its, r', pl, hz⟩ := I.list hq
    have hlen := r'.length
    refine call_tuple_list pl.isList (fun h' kp => ?_) (by simp only [List.size_toArray] <;> omega)
    have I1 : Inv X pins σ H { s with heap := h' } := I.kept (t' := s.toks) kp
    exact ⟨.ref h'.objs.size, _, laidP I1 r' hz, rfl, q _ _ (I1.hok.fresh (Nat.le_refl _)) rfl⟩
  · obtain ⟨its, r', pl, hz⟩ := I.tuple hq
    exact call_tuple_same pl ⟨.ref p, H, I, rfl, q⟩
def rSlP (K : PySem.W.Frag) : V → Option Int → Option Int → Hp → VK → Prop := fun x lo hi H Q => ∃ a xs, x = .ref a ∧ SqT K H a xs ∧
  (HT.sIx xs.length 0 lo = 0 ∧ HT.sIx xs.length xs.length hi = xs.length → Q (.ref a) H) ∧ (¬ (HT.sIx xs.length 0 lo = 0 ∧ HT.sIx xs.length xs.length hi = xs.length) → ∀ p o, H p = none → o.dict = none → Q (.ref p) (upd H p (.frz o (.tup (cutV xs lo hi)))))
theorem sl_tupP : SlR X (rSlP X.K) := by
  intro pins s σ H x v vl vu lo hi sl Q I rx hs pl pu h
  obtain ⟨a, xs, rfl, hx, q1, q2⟩ := h
  cases rx
  obtain ⟨its, r, ht, hz⟩ := I.tuple hx
  have hlen : its.toArray.size = xs.length := by rw [List.size_toArray]; exact r.length.symm
  refine ⟨"tuple", _, PyProof.Rows.slot_tuple_getitem.lookup, ht.typeIs, ?_⟩
  by_cases hw : HT.sIx xs.length 0 lo = 0 ∧ HT.sIx xs.length xs.length hi = xs.length
  · exact getItem_tuple_whole ht hs pl pu (by rw [hlen]; exact hw) ⟨.ref a, H, I, rfl, q1 hw⟩
  · refine HT.getItem_tuple_cut ht hs pl pu (by rw [hlen]; exact hw) ?_ (by rw [hlen]; exact hz)
    rw [hlen]
    exact ⟨.ref s.heap.objs.size, _, laidP I ((r.drop (HT.sIx xs.length 0 lo)).take (HT.sIx xs.length xs.length hi - HT.sIx xs.length 0 lo)) (Nat.le_trans (cutV_length xs lo hi) hz), rfl, q2 hw _ _ (I.hok.fresh (Nat.le_refl _)) rfl⟩
def rCatP (K : PySem.W.Frag) : R2 := fun x y H Q => ∃ a b xs ys, x = .ref a ∧ y = .ref b ∧ SqT K H a xs ∧ SqT K H b ys ∧ xs.length + ys.length ≤ sizeLine ∧
  (xs = [] → Q (.ref b) H) ∧ (xs ≠ [] → ys = [] → Q (.ref a) H) ∧ (xs ≠ [] → ys ≠ [] → ∀ p o, H p = none → o.dict = none → Q (.ref p) (upd H p (.frz o (.tup (xs ++ ys)))))
theorem op_catP : OpR X (binaryOp .Add) (rCatP X.K) := by
  intro pins s σ H x y v u Q I rx ry h
  obtain ⟨a, b, xs, ys, rfl, rfl, ha, hb, hz, q0, q1, q2⟩ := h
  cases rx
  cases ry
  obtain ⟨its, r1, p1, _⟩ := I.tuple ha
  obtain ⟨its2, r2, p2, _⟩ := I.tuple hb
  by_cases hx : xs = []
  · subst hx
    cases r1
    exact cat_tup0 p1 p2 ⟨.ref b, H, I, rfl, q0 rfl⟩
  · refine HT.cat_tup p1 p2 (fun z => hx (r1.nil_iff.mp z)) (fun z => ⟨.ref a, H, I, rfl, q1 hx (r2.nil_iff.mp z)⟩) (fun z => ?_) (by rw [← r1.length, ← r2.length]; exact hz)
    exact ⟨.ref s.heap.objs.size, _, laidP I (r1.append r2) (by rw [List.length_append]; exact hz), rfl, q2 hx (fun w => z (r2.nil_iff.mpr w)) _ _ (I.hok.fresh (Nat.le_refl _)) rfl⟩
end
/-! ### data and objects -/
/-- a slot, a value: nothing known; data that stays; the i-th object of the store -/
inductive Sl where
  | no
  | sh (d : PyData)
  | ob (i : Nat)
  | tp (ds : List PyData)
/-- an object of the store -/
inductive OO where
  | gone
  | lst (xs : List Sl)
  | dk (ks : List Key) (xs : List Sl)
  | dt (ks : List (List Key)) (xs : List Sl)
structure Z where
  sl : List Sl
  ob : List OO
/-- a world: the objects' addresses, what stays, the heap -/
structure Wd where
  rho : List Addr
  S : Hp
  H : Hp
structure Wd.Le (w w' : Wd) : Prop where
  st : Same w.S w'.S
  rho : ∀ (i : Nat) (p : Addr), w.rho[i]? = some p → w'.rho[i]? = some p
theorem Wd.Le.refl (w : Wd) : w.Le w := ⟨Same.refl _, fun _ _ h => h⟩
theorem Wd.Le.trans {w w1 w2 : Wd} (a : w.Le w1) (b : w1.Le w2) : w.Le w2 := ⟨a.st.trans b.st, fun i p h => b.rho i p (a.rho i p h)⟩

theorem Same.tup {K : PySem.W.Frag} {H H' : Hp} {a : Addr} {xs : List V} (e : Same H H') (h : SqT K H a xs) : SqT K H' a xs := by
  rcases h with (h | ⟨o, h⟩) | h
  · exact .inl (.inl (e _ _ h))
  · exact .inl (.inr ⟨o, e _ _ h⟩)
  · exact .inr h
theorem Same.pl {K : PySem.W.Frag} {H H' : Hp} {a : Addr} {xs : List V} (e : Same H H') (h : PlT K H a xs) : PlT K H' a xs := by
  rcases h with ⟨o, h, hd⟩ | h
  · exact .inl ⟨o, e _ _ h, hd⟩
  · exact .inr h
theorem Same.rd {H H' : Hp} {a : Addr} {u : HO} (e : Same H H') (h : Rd H a u) : Rd H' a u := by
  rcases h with h | ⟨o, h⟩
  · exact .inl (e _ _ h)
  · exact .inr ⟨o, e _ _ h⟩
def kD : Key → PyData
  | .inl i => .int i
  | .inr x => .str x
mutual
/-- a value that bears data -/
inductive Dq (K : PySem.W.Frag) (H : Hp) : V → PyData → Prop
  | non : Dq K H .non .none
  | bl (b : Bool) : Dq K H (.bl b) (.bool b)
  | int (i : Int) : Dq K H (.int i) (.int i)
  | str (x : Str) : Dq K H (.str x) (.str x)
  | lst {a : Addr} {xs : List V} {ds : List PyData} : Rd H a (.lst xs) → DqAll K H xs ds → Dq K H (.ref a) (.list ds)
  | tup {a : Addr} {xs : List V} {ds : List PyData} : PlT K H a xs → DqAll K H xs ds → Dq K H (.ref a) (.tuple ds)
  | dic {a : Addr} {kvs : List (Key × V)} {es : List (Key × PyData)} : H a = some (.dK kvs) → kvs.map (·.1) = es.map (·.1) → DqAll K H (kvs.map (·.2)) (es.map (·.2)) → Dq K H (.ref a) (.dict (es.map fun q => (kD q.1, q.2)))
inductive DqAll (K : PySem.W.Frag) (H : Hp) : List V → List PyData → Prop
  | nil : DqAll K H [] []
  | cons {v : V} {vs : List V} {d : PyData} {ds : List PyData} : Dq K H v d → DqAll K H vs ds → DqAll K H (v :: vs) (d :: ds)
end
mutual
theorem Dq.dp {K : PySem.W.Frag} {H : Hp} : ∀ {v : V} {d : PyData}, Dq K H v d → d.hasDict = false → L2.Dp K H v d
  | _, _, .non, _ => .non
  | _, _, .bl b, _ => .bl b
  | _, _, .int i, _ => .int i
  | _, _, .str x, _ => .str x
  | _, _, .lst h hs, n => .lst (.inl h) (DqAll.dp hs (by simpa only [PyData.hasDict] using n))
  | _, _, .tup h hs, n => .tup h.sq (DqAll.dp hs (by simpa only [PyData.hasDict] using n))
  | _, _, .dic _ _ _, n => by simp only [PyData.hasDict] at n; cases n
theorem DqAll.dp {K : PySem.W.Frag} {H : Hp} : ∀ {vs : List V} {ds : List PyData}, DqAll K H vs ds → PyData.hasDictAll ds = false → L2.DpAll K H vs ds
  | _, _, .nil, _ => .nil
  | _, _, .cons h hs, n => by
    simp only [PyData.hasDictAll, Bool.or_eq_false_iff] at n
    exact .cons (Dq.dp h n.1) (DqAll.dp hs n.2)
end
mutual
theorem Dp_mono {K : PySem.W.Frag} {H H' : Hp} (e : Same H H') : ∀ {v : V} {d : PyData}, Dq K H v d → Dq K H' v d
  | _, _, .non => .non
  | _, _, .bl b => .bl b
  | _, _, .int i => .int i
  | _, _, .str x => .str x
  | _, _, .lst h hs => .lst (Same.rd e h) (DpAll_mono e hs)
  | _, _, .tup h hs => .tup (Same.pl e h) (DpAll_mono e hs)
  | _, _, .dic h hk hs => .dic (e _ _ h) hk (DpAll_mono e hs)
theorem DpAll_mono {K : PySem.W.Frag} {H H' : Hp} (e : Same H H') : ∀ {vs : List V} {ds : List PyData}, DqAll K H vs ds → DqAll K H' vs ds
  | _, _, .nil => .nil
  | _, _, .cons h hs => .cons (Dp_mono e h) (DpAll_mono e hs)
end

def Vl (K : PySem.W.Frag) (w : Wd) (v : V) : Sl → Prop
  | .no => False
  | .sh d => Dq K w.S v d
  | .ob i => ∃ p, w.rho[i]? = some p ∧ v = .ref p
  | .tp ds => ∃ a xs, v = .ref a ∧ SqT K w.S a xs ∧ DqAll K w.S xs ds
theorem Vl.mono {K : PySem.W.Frag} {w w' : Wd} (l : w.Le w') {v : V} : ∀ {x : Sl}, Vl K w v x → Vl K w' v x
  | .no, h => h
  | .sh _, h => Dp_mono l.st h
  | .ob i, ⟨p, h, e⟩ => ⟨p, l.rho i p h, e⟩
  | .tp _, ⟨a, xs, e, h, hs⟩ => ⟨a, xs, e, Same.tup l.st h, DpAll_mono l.st hs⟩
def Sv (K : PySem.W.Frag) (w : Wd) (o : Option V) (x : Sl) : Prop := x = .no ∨ ∃ v, o = some v ∧ Vl K w v x
theorem Sv.mono {K : PySem.W.Frag} {w w' : Wd} (l : w.Le w') {o : Option V} {x : Sl} (h : Sv K w o x) : Sv K w' o x := by
  rcases h with h | ⟨v, e, h⟩
  · exact .inl h
  · exact .inr ⟨v, e, h.mono l⟩
def Ob (K : PySem.W.Frag) (w : Wd) (p : Addr) : OO → Prop
  | .gone => True
  | .lst xs => w.S p = none ∧ ∃ vs, w.H p = some (.lst vs) ∧ Paired (Vl K w) vs xs
  | .dk ks xs => w.S p = none ∧ ∃ vs, w.H p = some (.dK (ks.zip vs)) ∧ Paired (Vl K w) vs xs
  | .dt ks xs => w.S p = none ∧ ∃ vs, w.H p = some (.dT (ks.zip vs)) ∧ Paired (Vl K w) vs xs
theorem Ob.mono {K : PySem.W.Frag} {w w' : Wd} (l : w.Le w') {p : Addr} (hS : w.S p = none → w'.S p = none) (hH : w'.H p = w.H p) : ∀ {o : OO}, Ob K w p o → Ob K w' p o
  | .gone, _ => trivial
  | .lst xs, ⟨s, vs, e, h⟩ => ⟨hS s, vs, hH.trans e, h.mono fun _ _ q => q.mono l⟩
  | .dk _ xs, ⟨s, vs, e, h⟩ => ⟨hS s, vs, hH.trans e, h.mono fun _ _ q => q.mono l⟩
  | .dt _ xs, ⟨s, vs, e, h⟩ => ⟨hS s, vs, hH.trans e, h.mono fun _ _ q => q.mono l⟩

/-- where a def was entered -/
structure Ct where
  S : Hp
  H : Hp
  rho : List Addr
structure B (K : PySem.W.Frag) (c : Ct) (w : Wd) (σ : St) (z : Z) : Prop where
  same : Same w.S w.H
  len : w.rho.length = z.ob.length
  nd : w.rho.Nodup
  tr : ∀ p ∈ w.rho, w.H p ≠ none
  sl : Paired (Sv K w) σ z.sl
  ob : ∀ (i : Nat) (o : OO) (p : Addr), z.ob[i]? = some o → w.rho[i]? = some p → Ob K w p o
  pre : ∀ (i : Nat) (p : Addr), c.rho[i]? = some p → w.rho[i]? = some p
  fr : ∀ a o, c.H a = some o → a ∉ c.rho → w.H a = some o
  nw : ∀ a o, w.S a = some o → c.S a ≠ none ∨ c.H a = none ∨ a ∈ c.rho
  st : Same c.S w.S
  nr : ∀ (i : Nat) (p : Addr), c.rho.length ≤ i → w.rho[i]? = some p → c.H p = none

theorem nodup_ixA {l : List Addr} (nd : l.Nodup) : ∀ {i j : Nat} {p : Addr}, l[i]? = some p → l[j]? = some p → i = j := by
  intro i j p h1 h2
  obtain ⟨a1, b1⟩ := List.getElem?_eq_some_iff.mp h1
  obtain ⟨a2, b2⟩ := List.getElem?_eq_some_iff.mp h2
  exact (List.getElem_inj nd).mp (b1.trans b2.symm)
section
variable {K : PySem.W.Frag} {c : Ct} {w : Wd} {σ : St} {z : Z}
theorem B.fresh (b : B K c w σ z) {p : Addr} (h : w.H p = none) : c.H p = none := by
  cases e : c.H p with
  | none => rfl
  | some o =>
    by_cases hp : p ∈ c.rho
    · obtain ⟨i, hi⟩ := List.getElem?_of_mem hp
      exact absurd h (b.tr p (List.mem_of_getElem? (b.pre i p hi)))
    · rw [b.fr p o e hp] at h
      cases h
theorem B.freshS (b : B K c w σ z) {p : Addr} (h : w.H p = none) : w.S p = none := by
  cases e : w.S p with
  | none => rfl
  | some o =>
    rw [b.same p o e] at h
    cases h
theorem B.ne (b : B K c w σ z) {p q : Addr} (h : w.H p = none) (hq : q ∈ w.rho) : q ≠ p := fun e => b.tr q hq (e ▸ h)
theorem le_new {p : Addr} {o : HO} (h : w.S p = none) : w.Le ⟨w.rho, upd w.S p o, upd w.H p o⟩ := ⟨fun a u e => by
  show upd w.S p o a = some u
  rw [upd_ne (ne_of_none e h)]
  exact e, fun _ _ h => h⟩
/-- a new thing that stays -/
theorem B.newS (b : B K c w σ z) {p : Addr} {o : HO} (h : w.H p = none) : B K c ⟨w.rho, upd w.S p o, upd w.H p o⟩ σ z := by
  have hs := b.freshS h
  have l : w.Le ⟨w.rho, upd w.S p o, upd w.H p o⟩ := le_new hs
  refine ⟨fun a u e => ?_, b.len, b.nd, fun q hq => ?_, b.sl.mono fun _ _ q => q.mono l, fun i x q h1 h2 => ?_, b.pre, fun a u e hn => ?_, fun a u e => ?_, b.st.trans l.st, b.nr⟩
  · show upd w.H p o a = some u
    have e : upd w.S p o a = some u := e
    by_cases ha : a = p
    · subst ha
      rw [upd_same] at e ⊢
      exact e
    · rw [upd_ne ha] at e ⊢
      exact b.same a u e
  · show upd w.H p o q ≠ none
    rw [upd_ne (b.ne h hq)]
    exact b.tr q hq
  · have hq := b.ne h (List.mem_of_getElem? h2)
    exact (b.ob i x q h1 h2).mono l (fun e => by
      show upd w.S p o q = none
      rw [upd_ne hq]
      exact e) (by
      show upd w.H p o q = w.H q
      rw [upd_ne hq])
  · show upd w.H p o a = some u
    have e2 := b.fr a u e hn
    rw [upd_ne (ne_of_none e2 h)]
    exact e2
  · have e : upd w.S p o a = some u := e
    by_cases ha : a = p
    · exact .inr (.inl (ha ▸ b.fresh h))
    · rw [upd_ne ha] at e
      exact b.nw a u e
theorem le_obj {p : Addr} {o : HO} {ps : List Addr} : w.Le ⟨w.rho ++ ps, w.S, upd w.H p o⟩ := ⟨Same.refl _, fun i q e => by
  show (w.rho ++ ps)[i]? = some q
  rw [List.getElem?_append_left (List.getElem?_eq_some_iff.mp e).1]
  exact e⟩
/-- a new object of the store -/
theorem B.newG (b : B K c w σ z) {p : Addr} {hu : HO} {oo : OO} (h : w.H p = none) (hob : ∀ w' : Wd, w.Le w' → w'.S p = none → w'.H p = some hu → Ob K w' p oo) :
    B K c ⟨w.rho ++ [p], w.S, upd w.H p hu⟩ σ ⟨z.sl, z.ob ++ [oo]⟩ := by
  have hs := b.freshS h
  have l : w.Le ⟨w.rho ++ [p], w.S, upd w.H p hu⟩ := le_obj
  have hpn : p ∉ w.rho := fun hp => b.tr p hp h
  refine ⟨fun a u e => ?_, ?_, ?_, fun q hq => ?_, b.sl.mono fun _ _ q => q.mono l, fun i x q h1 h2 => ?_, fun i q e => l.rho i q (b.pre i q e), fun a u e hn => ?_, b.nw, b.st, fun i q hi e => ?_⟩
  · show upd w.H p hu a = some u
    rw [upd_ne (ne_of_none (b.same a u e) h)]
    exact b.same a u e
  · show (w.rho ++ [p]).length = (z.ob ++ [oo]).length
    rw [List.length_append, List.length_append, b.len]
    rfl
  · exact List.nodup_append.mpr ⟨b.nd, by simp, fun a ha q hq => by
      rw [List.mem_singleton] at hq
      subst hq
      exact fun e => hpn (e ▸ ha)⟩
  · show upd w.H p hu q ≠ none
    by_cases hqp : q = p
    · subst hqp
      rw [upd_same]
      simp
    · rw [upd_ne hqp]
      rcases List.mem_append.mp hq with hq | hq
      · exact b.tr q hq
      · exact absurd (List.mem_singleton.mp hq) hqp
  · have h1 : (z.ob ++ [oo])[i]? = some x := h1
    have h2 : (w.rho ++ [p])[i]? = some q := h2
    by_cases hi : i < w.rho.length
    · rw [List.getElem?_append_left hi] at h2
      rw [List.getElem?_append_left (b.len ▸ hi)] at h1
      have hq := b.ne h (List.mem_of_getElem? h2)
      exact (b.ob i x q h1 h2).mono l (fun e => e) (by
        show upd w.H p hu q = w.H q
        rw [upd_ne hq])
    · have hi2 : i = w.rho.length := by
        have := (List.getElem?_eq_some_iff.mp h2).1
        rw [List.length_append] at this
        simp at this
        omega
      subst hi2
      rw [List.getElem?_append_right (Nat.le_refl _), Nat.sub_self] at h2
      rw [b.len, List.getElem?_append_right (Nat.le_refl _), Nat.sub_self] at h1
      cases h1
      cases h2
      exact hob _ l hs upd_same
  · show upd w.H p hu a = some u
    have e2 := b.fr a u e hn
    rw [upd_ne (ne_of_none e2 h)]
    exact e2
  · have e : (w.rho ++ [p])[i]? = some q := e
    by_cases hi2 : i < w.rho.length
    · rw [List.getElem?_append_left hi2] at e
      exact b.nr i q hi e
    · have : q ∈ [p] := by
        rw [List.getElem?_append_right (by omega)] at e
        exact List.mem_of_getElem? e
      rw [List.mem_singleton] at this
      subst this
      exact b.fresh h
theorem B.newO (b : B K c w σ z) {p : Addr} {vs : List V} {xs : List Sl} (h : w.H p = none) (hv : Paired (Vl K w) vs xs) :
    B K c ⟨w.rho ++ [p], w.S, upd w.H p (.lst vs)⟩ σ ⟨z.sl, z.ob ++ [.lst xs]⟩ := b.newG h fun _ l hS hH => ⟨hS, vs, hH, hv.mono fun _ _ q => q.mono l⟩
theorem le_set {p : Addr} {o : HO} : w.Le ⟨w.rho, w.S, upd w.H p o⟩ := ⟨Same.refl _, fun _ _ e => e⟩
/-- a list of the store is written -/
theorem B.setG (b : B K c w σ z) {i : Nat} {p : Addr} {o0 oo : OO} {hu : HO} (hi : z.ob[i]? = some o0) (hp : w.rho[i]? = some p) (hS : w.S p = none) (hob : ∀ w' : Wd, w.Le w' → w'.S p = none → w'.H p = some hu → Ob K w' p oo) :
    B K c ⟨w.rho, w.S, upd w.H p hu⟩ σ ⟨z.sl, z.ob.set i oo⟩ := by
  have l : w.Le ⟨w.rho, w.S, upd w.H p hu⟩ := le_set
  refine ⟨fun a u e => ?_, ?_, b.nd, fun q hq => ?_, b.sl.mono fun _ _ q => q.mono l, fun j x q h1 h2 => ?_, b.pre, fun a u e hn => ?_, b.nw, b.st, b.nr⟩
  · show upd w.H p hu a = some u
    rw [upd_ne (ne_of_none e hS)]
    exact b.same a u e
  · show w.rho.length = (z.ob.set i _).length
    rw [List.length_set]
    exact b.len
  · show upd w.H p hu q ≠ none
    by_cases hqp : q = p
    · subst hqp
      rw [upd_same]
      simp
    · rw [upd_ne hqp]
      exact b.tr q hq
  · have h1 : (z.ob.set i oo)[j]? = some x := h1
    have h2 : w.rho[j]? = some q := h2
    by_cases hj : i = j
    · subst hj
      rw [hp] at h2
      cases h2
      have hlt := (List.getElem?_eq_some_iff.mp hi).1
      rw [List.getElem?_set_self hlt] at h1
      cases h1
      exact hob _ l hS upd_same
    · rw [List.getElem?_set_ne hj] at h1
      have hqp : q ≠ p := fun e => by
        subst e
        exact hj (nodup_ixA b.nd hp h2)
      exact (b.ob j x q h1 h2).mono l (fun e => e) (by
        show upd w.H p hu q = w.H q
        rw [upd_ne hqp])
  · show upd w.H p hu a = some u
    by_cases hap : a = p
    · subst hap
      have := b.fr a u e hn
      by_cases hc : i < c.rho.length
      · have e5 : c.rho[i]? = some c.rho[i] := List.getElem?_eq_getElem hc
        have e6 := b.pre i _ e5
        rw [hp] at e6
        exact absurd (Option.some.inj e6 ▸ List.getElem_mem hc) hn
      · have e6 := b.nr i a (by omega) hp
        rw [e] at e6
        cases e6
    · rw [upd_ne hap]
      exact b.fr a u e hn
theorem B.setO (b : B K c w σ z) {i : Nat} {p : Addr} {xs ys : List Sl} {vs : List V} (hi : z.ob[i]? = some (.lst xs)) (hp : w.rho[i]? = some p) (hv : Paired (Vl K w) vs ys) :
    B K c ⟨w.rho, w.S, upd w.H p (.lst vs)⟩ σ ⟨z.sl, z.ob.set i (.lst ys)⟩ := b.setG hi hp (b.ob i _ p hi hp).1 fun _ l hS hH => ⟨hS, vs, hH, hv.mono fun _ _ q => q.mono l⟩
/-- a slot is written -/
theorem paired_set {α β : Type} {F : α → β → Prop} {a : α} {y : β} (h : F a y) : ∀ {l₁ : List α} {l₂ : List β} (i : Nat), Paired F l₁ l₂ → Paired F (l₁.set i a) (l₂.set i y)
  | _, _, _, .nil => .nil
  | _, _, 0, .cons _ t => .cons h t
  | _, _, i + 1, .cons q t => .cons q (paired_set h i t)
theorem paired_get {α β : Type} {F : α → β → Prop} : ∀ {l₁ : List α} {l₂ : List β} {i : Nat} {y : β}, Paired F l₁ l₂ → l₂[i]? = some y → ∃ x, l₁[i]? = some x ∧ F x y
  | _, _, _, _, .nil, e => by simp at e
  | _, _, 0, _, .cons r _, e => by simp at e; subst e; exact ⟨_, rfl, r⟩
  | _, _, i + 1, x, .cons _ t, e => by
    obtain ⟨u, h1, h2⟩ := paired_get (i := i) t (by simpa using e)
    exact ⟨u, by simpa using h1, h2⟩
theorem paired_get' {α β : Type} {F : α → β → Prop} : ∀ {l₁ : List α} {l₂ : List β} {i : Nat} {x : α}, Paired F l₁ l₂ → l₁[i]? = some x → ∃ y, l₂[i]? = some y ∧ F x y
  | _, _, _, _, .nil, e => by simp at e
  | _, _, 0, _, .cons r _, e => by simp at e; subst e; exact ⟨_, rfl, r⟩
  | _, _, i + 1, x, .cons _ t, e => by
    obtain ⟨u, h1, h2⟩ := paired_get' (i := i) t (by simpa using e)
    exact ⟨u, by simpa using h1, h2⟩
theorem paired_app {α β : Type} {F : α → β → Prop} : ∀ {l₁ m₁ : List α} {l₂ m₂ : List β}, Paired F l₁ l₂ → Paired F m₁ m₂ → Paired F (l₁ ++ m₁) (l₂ ++ m₂)
  | _, _, _, _, .nil, s => s
  | _, _, _, _, .cons r t, s => .cons r (paired_app t s)
theorem paired_take {α β : Type} {F : α → β → Prop} : ∀ {l₁ : List α} {l₂ : List β} (n : Nat), Paired F l₁ l₂ → Paired F (l₁.take n) (l₂.take n)
  | _, _, 0, _ => .nil
  | _, _, _ + 1, .nil => .nil
  | _, _, n + 1, .cons r t => .cons r (paired_take n t)
theorem paired_drop {α β : Type} {F : α → β → Prop} : ∀ {l₁ : List α} {l₂ : List β} (n : Nat), Paired F l₁ l₂ → Paired F (l₁.drop n) (l₂.drop n)
  | _, _, 0, r => r
  | _, _, _ + 1, .nil => .nil
  | _, _, n + 1, .cons _ t => paired_drop n t
theorem paired_rev {α β : Type} {F : α → β → Prop} : ∀ {l₁ : List α} {l₂ : List β}, Paired F l₁ l₂ → Paired F l₁.reverse l₂.reverse
  | _, _, .nil => .nil
  | _, _, .cons r t => by
    rw [List.reverse_cons, List.reverse_cons]
    exact (paired_rev t).snoc r
theorem B.setSl (b : B K c w σ z) {i : Nat} {v : V} {x : Sl} (h : Vl K w v x) : B K c w (σ.set i (some v)) ⟨z.sl.set i x, z.ob⟩ :=
  ⟨b.same, b.len, b.nd, b.tr, paired_set (.inr ⟨v, rfl, h⟩) i b.sl, b.ob, b.pre, b.fr, b.nw, b.st, b.nr⟩
theorem B.get (b : B K c w σ z) {i : Nat} {x : Sl} (h : z.sl[i]? = some x) (hx : x ≠ .no) : ∃ v, σ[i]? = some (some v) ∧ Vl K w v x := by
  obtain ⟨o, e, q⟩ := paired_get b.sl h
  rcases q with q | ⟨v, rfl, q⟩
  · exact absurd q hx
  · exact ⟨v, e, q⟩
theorem B.atOb (b : B K c w σ z) {i : Nat} {o : OO} (h : z.ob[i]? = some o) : ∃ p, w.rho[i]? = some p ∧ Ob K w p o := by
  have hlt := (List.getElem?_eq_some_iff.mp h).1
  have hl : i < w.rho.length := by
    rw [b.len]
    exact hlt
  have e : w.rho[i]? = some w.rho[i] := List.getElem?_eq_getElem hl
  exact ⟨_, e, b.ob i o _ h e⟩
end
end Dl

namespace Dl
open PySem PySem.Spec L2
open PyProof.Rows hiding St

/-! ### what a piece of the text does over data -/
def Cont (K : PySem.W.Frag) (c : Ct) (w : Wd) (σ : St) (Q : Sl → Z → Prop) (k : VK) : Prop := ∀ v x w' z', B K c w' σ z' → w.Le w' → Vl K w' v x → Q x z' → k v w'.H
def WE (X : Cx) (e : Expr) (z : Z) (Q : Sl → Z → Prop) : Prop := ∀ c w σ k, B X.K c w σ z → Cont X.K c w σ Q k → tE X e σ w.H k
def WT (X : Cx) (e : Expr) (z : Z) (Q : Bool → Z → Prop) : Prop := ∀ c w σ (k : Bool → Hp → Prop), B X.K c w σ z → (∀ b w' z', B X.K c w' σ z' → w.Le w' → Q b z' → k b w'.H) → tT X e σ w.H k
def WW (X : Cx) (e : Expr) (z : Z) (Q : Bool → Z → Prop) : Prop := ∀ c w σ (k : Bool → Hp → Prop), B X.K c w σ z → (∀ b w' z', B X.K c w' σ z' → w.Le w' → Q b z' → k b w'.H) → tWh X e σ w.H k
def WA (X : Cx) (es : List Expr) (z : Z) (Q : List Sl → Z → Prop) : Prop := ∀ c w σ (k : List V → Hp → Prop), B X.K c w σ z → (∀ vs xs w' z', B X.K c w' σ z' → w.Le w' → Paired (Vl X.K w') vs xs → Q xs z' → k vs w'.H) → tA X es σ w.H k
def RD (X : Cx) (f : Value → Value → Sem Value) (x y : Sl) (z : Z) (Q : Sl → Z → Prop) : Prop := ∀ c w σ v u k, B X.K c w σ z → Vl X.K w v x → Vl X.K w u y → Cont X.K c w σ Q k → rB X f v u w.H k
def UD (X : Cx) (f : Value → Sem Value) (x : Sl) (z : Z) (Q : Sl → Z → Prop) : Prop := ∀ c w σ v k, B X.K c w σ z → Vl X.K w v x → Cont X.K c w σ Q k → uB X f v w.H k
def CD (X : Cx) (f : Value) (xs : List Sl) (z : Z) (Q : Sl → Z → Prop) : Prop := ∀ c w σ vs k, B X.K c w σ z → Paired (Vl X.K w) vs xs → Cont X.K c w σ Q k → cB X f vs w.H k
inductive Out where
  | nx (z : Z)
  | rt (x : Sl) (z : Z)
  | bk (z : Z)
  | ct (z : Z)
structure EndsOk (K : PySem.W.Frag) (c : Ct) (w : Wd) (Q : Out → Prop) (D : Ends) : Prop where
  nx : ∀ w' σ' z', B K c w' σ' z' → w.Le w' → Q (.nx z') → D.nx σ' w'.H
  rt : ∀ v x w' σ' z', B K c w' σ' z' → w.Le w' → Vl K w' v x → Q (.rt x z') → D.rt v w'.H
  bk : ∀ w' σ' z', B K c w' σ' z' → w.Le w' → Q (.bk z') → D.bk σ' w'.H
  ct : ∀ w' σ' z', B K c w' σ' z' → w.Le w' → Q (.ct z') → D.ct σ' w'.H
def W1 (X : Cx) (st : Stmt) (z : Z) (Q : Out → Prop) : Prop := ∀ c w σ D, B X.K c w σ z → EndsOk X.K c w Q D → tS X st D σ w.H
def WS (X : Cx) (st : List Stmt) (z : Z) (Q : Out → Prop) : Prop := ∀ c w σ D, B X.K c w σ z → EndsOk X.K c w Q D → tSs X st D σ w.H
theorem Cont.le {K : PySem.W.Frag} {c : Ct} {w w1 : Wd} {σ : St} {Q : Sl → Z → Prop} {k : VK} (h : Cont K c w σ Q k) (l : w.Le w1) : Cont K c w1 σ Q k := fun v x w' z' b l' q hq => h v x w' z' b (l.trans l') q hq
theorem EndsOk.le {K : PySem.W.Frag} {c : Ct} {w w1 : Wd} {Q : Out → Prop} {D : Ends} (h : EndsOk K c w Q D) (l : w.Le w1) : EndsOk K c w1 Q D :=
  ⟨fun w' σ' z' b l' q => h.nx w' σ' z' b (l.trans l') q, fun v x w' σ' z' b l' r q => h.rt v x w' σ' z' b (l.trans l') r q, fun w' σ' z' b l' q => h.bk w' σ' z' b (l.trans l') q, fun w' σ' z' b l' q => h.ct w' σ' z' b (l.trans l') q⟩

theorem vsh {K : PySem.W.Frag} {w : Wd} {v : V} {d : PyData} (h : Dq K w.S v d) : Vl K w v (.sh d) := h
theorem vI {K : PySem.W.Frag} {w : Wd} (i : Int) : Vl K w (.int i) (.sh (.int i)) := Dq.int i
theorem vB {K : PySem.W.Frag} {w : Wd} (i : Bool) : Vl K w (.bl i) (.sh (.bool i)) := Dq.bl i
theorem vS {K : PySem.W.Frag} {w : Wd} (i : Str) : Vl K w (.str i) (.sh (.str i)) := Dq.str i
theorem vN {K : PySem.W.Frag} {w : Wd} : Vl K w .non (.sh .none) := Dq.non
section
variable {X : Cx} {e a b : Expr} {es : List Expr} {z : Z} {pos : Pos} {Q Q' : Sl → Z → Prop}
theorem WE.mono (h : WE X e z Q) (q : ∀ x z', Q x z' → Q' x z') : WE X e z Q' := fun c w σ k b hk => h c w σ k b fun v x w' z' b' l r hq => hk v x w' z' b' l r (q x z' hq)
theorem RD.mono {f : Value → Value → Sem Value} {x y : Sl} (h : RD X f x y z Q) (q : ∀ x z', Q x z' → Q' x z') : RD X f x y z Q' := fun c w σ v u k b r1 r2 hk => h c w σ v u k b r1 r2 fun v x w' z' b' l r hq => hk v x w' z' b' l r (q x z' hq)
theorem WT.mono {P P' : Bool → Z → Prop} (h : WT X e z P) (q : ∀ x z', P x z' → P' x z') : WT X e z P' := fun c w σ k b hk => h c w σ k b fun x w' z' b' l hq => hk x w' z' b' l (q x z' hq)
theorem WA.mono {P P' : List Sl → Z → Prop} (h : WA X es z P) (q : ∀ x z', P x z' → P' x z') : WA X es z P' := fun c w σ k b hk => h c w σ k b fun vs x w' z' b' l r hq => hk vs x w' z' b' l r (q x z' hq)
theorem WS.mono {st : List Stmt} {P P' : Out → Prop} (h : WS X st z P) (q : ∀ o, P o → P' o) : WS X st z P' := fun c w σ D b hk => h c w σ D b
  ⟨fun w' σ' z' b' l hq => hk.nx w' σ' z' b' l (q _ hq), fun v x w' σ' z' b' l r hq => hk.rt v x w' σ' z' b' l r (q _ hq), fun w' σ' z' b' l hq => hk.bk w' σ' z' b' l (q _ hq), fun w' σ' z' b' l hq => hk.ct w' σ' z' b' l (q _ hq)⟩
/-! names, constants -/
theorem we_var {i : Nat} {x : Str} {s : Sl} (hN : X.N[i]? = some x) (hv : Vis X.env.scope x) (hs : z.sl[i]? = some s) (hx : s ≠ .no) (h : Q s z) (hd : (x == ("__debug__" : Str)) = false := by decide) (hcd : (x == ("__classdict__" : Str)) = false := by decide) : WE X (.Name x pos) z Q := by
  intro c w σ k b hk
  obtain ⟨v, e, q⟩ := b.get hs hx
  exact tE_of (pe_var hN hv hd hcd) ⟨v, e, hk v s w z b (.refl w) q h⟩
theorem we_int {i j} (h : Q (.sh (.int i)) z) : WE X (.Constant (.int i) j pos) z Q := fun c w σ k b hk => tE_of pe_int (hk _ _ w z b (.refl w) (vI i) h)
theorem we_bl {i j} (h : Q (.sh (.bool i)) z) : WE X (.Constant (.bool i) j pos) z Q := fun c w σ k b hk => tE_of pe_bl (hk _ _ w z b (.refl w) (vB i) h)
theorem we_non {j} (h : Q (.sh .none) z) : WE X (.Constant .none j pos) z Q := fun c w σ k b hk => tE_of pe_non (hk _ _ w z b (.refl w) vN h)
theorem we_str {i j} (h : Q (.sh (.str i)) z) : WE X (.Constant (.str i) j pos) z Q := fun c w σ k b hk => tE_of pe_str (hk _ _ w z b (.refl w) (vS i) h)
/-- a module's int or text -/
theorem we_gint {x : Str} {i : Int} {t : Tok} (hg : Gl X x) (hm : X.mg x = some (.int i t)) (h : Q (.sh (.int i)) z) (hd : (x == ("__debug__" : Str)) = false := by decide) : WE X (.Name x pos) z Q := fun c w σ k b hk => tE_of (pe_glob (v := .int i) hg hm ⟨t, rfl⟩ hd) (hk _ _ w z b (.refl w) (vI i) h)
theorem we_gstr {x : Str} {i : Str} {t : Tok} (hg : Gl X x) (hm : X.mg x = some (.str i t)) (h : Q (.sh (.str i)) z) (hd : (x == ("__debug__" : Str)) = false := by decide) : WE X (.Name x pos) z Q := fun c w σ k b hk => tE_of (pe_glob (v := .str i) hg hm ⟨t, rfl⟩ hd) (hk _ _ w z b (.refl w) (vS i) h)
/-! two operands -/
theorem bin_ok {r : R2} {f : Value → Value → Sem Value} (hr : r = rB X f) {c : Ct} {w : Wd} {σ : St} {k : VK} (bb : B X.K c w σ z) (hk : Cont X.K c w σ Q k)
    (h : WE X a z fun x z1 => WE X b z1 fun y z2 => RD X f x y z2 Q) : tOp r (tE X a) (tE X b) σ w.H k := by
  subst hr
  exact h c w σ _ bb fun v x w1 z1 b1 l1 q1 h1 => h1 c w1 σ _ b1 fun u y w2 z2 b2 l2 q2 h2 => h2 c w2 σ v u k b2 (q1.mono l2) q2 (hk.le (l1.trans l2))
theorem we_bin {op : Operator} (h : WE X a z fun x z1 => WE X b z1 fun y z2 => RD X (binaryOp op) x y z2 Q) : WE X (.BinOp a op b pos) z Q := fun c w σ k bb hk => tE_of (pe_op rB_op peB peB) (bin_ok rfl bb hk h)
theorem we_cmp {op : CmpOp} (h : WE X a z fun x z1 => WE X b z1 fun y z2 => RD X (compareOp op) x y z2 Q) (hm : behindInMarks op b = false := by first | exact nomark _ | rfl) : WE X (.Compare a [op] [b] pos) z Q := fun c w σ k bb hk => tE_of (pe_cmpR rB_op peB peB hm) (bin_ok rfl bb hk h)
/-- a value that is a truth -/
def Tru (P : Bool → Z → Prop) : Sl → Z → Prop := fun x z => ∃ c, x = .sh (.bool c) ∧ P c z
theorem tru_i {P : Bool → Z → Prop} {c : Bool} (h : P c z) : Tru P (.sh (.bool c)) z := ⟨c, rfl, h⟩
theorem Dp_bl {K : PySem.W.Frag} {H : Hp} {v : V} {c : Bool} (h : Dq K H v (.bool c)) : v = .bl c := by cases h; rfl
theorem Dp_int {K : PySem.W.Frag} {H : Hp} {v : V} {c : Int} (h : Dq K H v (.int c)) : v = .int c := by cases h; rfl
theorem Dp_str {K : PySem.W.Frag} {H : Hp} {v : V} {c : Str} (h : Dq K H v (.str c)) : v = .str c := by cases h; rfl
theorem Dp_non {K : PySem.W.Frag} {H : Hp} {v : V} (h : Dq K H v .none) : v = .non := by cases h; rfl
theorem wt_cmp {op : CmpOp} {P : Bool → Z → Prop} (h : WE X a z fun x z1 => WE X b z1 fun y z2 => RD X (compareOp op) x y z2 (Tru P)) (hm : behindInMarks op b = false := by first | exact nomark _ | rfl) : WT X (.Compare a [op] [b] pos) z P := fun c w σ k bb hk =>
  tT_of (pt_cmpR rB_op peB peB hm) (bin_ok (Q := Tru P) rfl bb (fun v x w' z' b' l r ⟨c, e, hp⟩ => ⟨c, Dp_bl (e ▸ r), hk c w' z' b' l hp⟩) h)
theorem wt_val {P : Bool → Z → Prop} (h : WE X e z (Tru P)) (he : ∀ whole, isTrue e X.env whole = (do let v ← whole; standAt e.pos; holding [v] (truthy v)) := by intro _; rfl) : WT X e z P := fun c w σ k bb hk =>
  tT_of (pt_val peB he) (h c w σ _ bb fun v x w' z' b' l r ⟨c, e, hp⟩ => ⟨c, Dp_bl (e ▸ r), hk c w' z' b' l hp⟩)
theorem wt_not {P : Bool → Z → Prop} (h : WT X a z fun b z1 => P (!b) z1) : WT X (.UnaryOp .Not a pos) z P := fun c w σ k bb hk =>
  tT_of (pt_not ptB) (h c w σ _ bb fun b w' z' b' l hp => hk _ w' z' b' l hp)
theorem wt_ww {P : Bool → Z → Prop} (h : WW X e z P) : WT X e z P := fun c w σ k bb hk => tT_of (PW.pt pwB) (h c w σ _ bb hk)
theorem ww_and1 {P : Bool → Z → Prop} (h : WT X a z P) : WW X (.BoolOp .And [a] pos) z P := fun c w σ k bb hk => tWh_of (pw_and1 ptB) (h c w σ _ bb hk)
theorem ww_or1 {P : Bool → Z → Prop} (h : WT X a z P) : WW X (.BoolOp .Or [a] pos) z P := fun c w σ k bb hk => tWh_of (pw_or1 ptB) (h c w σ _ bb hk)
theorem ww_and {P : Bool → Z → Prop} {rest : List Expr} (h : WT X a z fun c z1 => (c = true → WW X (.BoolOp .And (b :: rest) pos) z1 P) ∧ (c = false → P false z1)) : WW X (.BoolOp .And (a :: b :: rest) pos) z P := fun c w σ k bb hk =>
  tWh_of (pw_and ptB pwB) (h c w σ _ bb fun d w' z' b' l hp => by
    cases d with
    | true =>
      show tWh X _ σ w'.H k
      exact hp.1 rfl c w' σ k b' fun d2 w2 z2 b2 l2 q => hk d2 w2 z2 b2 (l.trans l2) q
    | false =>
      show k false w'.H
      exact hk false w' z' b' l (hp.2 rfl))
theorem ww_or {P : Bool → Z → Prop} {rest : List Expr} (h : WT X a z fun c z1 => (c = true → P true z1) ∧ (c = false → WW X (.BoolOp .Or (b :: rest) pos) z1 P)) : WW X (.BoolOp .Or (a :: b :: rest) pos) z P := fun c w σ k bb hk =>
  tWh_of (pw_or ptB pwB) (h c w σ _ bb fun d w' z' b' l hp => by
    cases d with
    | false =>
      show tWh X _ σ w'.H k
      exact hp.2 rfl c w' σ k b' fun d2 w2 z2 b2 l2 q => hk d2 w2 z2 b2 (l.trans l2) q
    | true =>
      show k true w'.H
      exact hk true w' z' b' l (hp.1 rfl))
/-! and, or, not as values -/
theorem we_one {op} (h : WE X a z Q) : WE X (.BoolOp op [a] pos) z Q := fun c w σ k bb hk => tE_of (pe_one peB) (h c w σ _ bb hk)
theorem we_and {rest : List Expr} (h : WE X a z (Tru fun c z1 => (c = true → WE X (.BoolOp .And (b :: rest) pos) z1 Q) ∧ (c = false → Q (.sh (.bool false)) z1))) : WE X (.BoolOp .And (a :: b :: rest) pos) z Q := fun c w σ k bb hk =>
  tE_of (pe_and peB peB) (h c w σ _ bb fun v x w' z' b' l r ⟨d, e, hp⟩ => ⟨d, Dp_bl (e ▸ r), by
    cases d with
    | true =>
      show tE X _ σ w'.H k
      exact hp.1 rfl c w' σ k b' (hk.le l)
    | false =>
      show k (.bl false) w'.H
      exact hk (.bl false) _ w' z' b' l (vB false) (hp.2 rfl)⟩)
theorem we_or {rest : List Expr} (h : WE X a z (Tru fun c z1 => (c = true → Q (.sh (.bool true)) z1) ∧ (c = false → WE X (.BoolOp .Or (b :: rest) pos) z1 Q))) : WE X (.BoolOp .Or (a :: b :: rest) pos) z Q := fun c w σ k bb hk =>
  tE_of (pe_or peB peB) (h c w σ _ bb fun v x w' z' b' l r ⟨d, e, hp⟩ => ⟨d, Dp_bl (e ▸ r), by
    cases d with
    | false =>
      show tE X _ σ w'.H k
      exact hp.2 rfl c w' σ k b' (hk.le l)
    | true =>
      show k (.bl true) w'.H
      exact hk (.bl true) _ w' z' b' l (vB true) (hp.1 rfl)⟩)
theorem we_not (h : WE X a z (Tru fun c z1 => Q (.sh (.bool (!c))) z1)) : WE X (.UnaryOp .Not a pos) z Q := fun c w σ k bb hk =>
  tE_of (pe_not peB) (h c w σ _ bb fun v x w' z' b' l r ⟨d, e, hp⟩ => ⟨d, Dp_bl (e ▸ r), hk (.bl (!d)) _ w' z' b' l (vB (!d)) hp⟩)
theorem we_ifx {t : Expr} (h : WT X t z fun c z1 => (c = true → WE X a z1 Q) ∧ (c = false → WE X b z1 Q)) : WE X (.IfExp t a b pos) z Q := fun c w σ k bb hk =>
  tE_of (pe_ifExp ptB peB peB) (h c w σ _ bb fun d w' z' b' l hp => by
    cases d with
    | true =>
      show tE X _ σ w'.H k
      exact hp.1 rfl c w' σ k b' (hk.le l)
    | false =>
      show tE X _ σ w'.H k
      exact hp.2 rfl c w' σ k b' (hk.le l))
theorem we_un {op : UnaryOp} (h : WE X a z fun x z1 => UD X (unaryOp op) x z1 Q) : WE X (.UnaryOp op a pos) z Q := fun c w σ k bb hk =>
  tE_of (pe_un uB_op peB) (h c w σ _ bb fun v x w' z' b' l r hu => hu c w' σ v k b' r (hk.le l))
/-! argument lists, displays -/
theorem wa_nil {P : List Sl → Z → Prop} (h : P [] z) : WA X [] z P := fun c w σ k bb hk => tA_of pa_nil (hk [] [] w z bb (.refl w) .nil h)
theorem wa_cons {P : List Sl → Z → Prop} (h : WE X e z fun x z1 => WA X es z1 fun xs z2 => P (x :: xs) z2) (hs : starEach (e :: es) X.env = (false, eval e X.env) :: starEach es X.env := by rfl) : WA X (e :: es) z P := fun c w σ k bb hk =>
  tA_of (pa_cons peB paB hs) (h c w σ _ bb fun v x w1 z1 b1 l1 q1 h1 => h1 c w1 σ _ b1 fun vs xs w2 z2 b2 l2 q2 h2 => hk (v :: vs) (x :: xs) w2 z2 b2 (l1.trans l2) (.cons (q1.mono l2) q2) h2)
def allSh : List Sl → Option (List PyData)
  | [] => some []
  | .sh d :: r => match allSh r with
    | some l => some (d :: l)
    | none => none
  | _ :: _ => none
theorem allSh_inv {d : PyData} {r : List Sl} {ds : List PyData} (e : allSh (.sh d :: r) = some ds) : ∃ l, allSh r = some l ∧ d :: l = ds := by
  unfold allSh at e
  split at e
  · rename_i l h
    exact ⟨l, h, Option.some.inj e⟩
  · cases e
theorem allSh_dp {K : PySem.W.Frag} {w : Wd} : ∀ {xs : List Sl} {ds : List PyData} {vs : List V}, allSh xs = some ds → Paired (Vl K w) vs xs → DqAll K w.S vs ds
  | [], _, _, e, .nil => by
    cases e
    exact .nil
  | .sh d :: r, _, _, e, .cons q t => by
    obtain ⟨ds, e1, rfl⟩ := allSh_inv e
    exact .cons q (allSh_dp e1 t)
theorem dp_allSh {K : PySem.W.Frag} {w : Wd} : ∀ {ds : List PyData} {vs : List V}, DqAll K w.S vs ds → Paired (Vl K w) vs (ds.map Sl.sh)
  | _, _, .nil => .nil
  | _, _, .cons h t => .cons h (dp_allSh t)
theorem allSh_map (ds : List PyData) : allSh (ds.map Sl.sh) = some ds := by
  induction ds with
  | nil => rfl
  | cons d r ih =>
    show (match allSh (r.map Sl.sh) with | some l => some (d :: l) | none => none) = _
    rw [ih]
theorem allSh_len : ∀ {xs : List Sl} {ds : List PyData}, allSh xs = some ds → ds.length = xs.length
  | [], _, e => by
    cases e
    rfl
  | .sh d :: r, _, e => by
    obtain ⟨ds, e1, rfl⟩ := allSh_inv e
    simp [allSh_len e1]
/-- a new tuple, a new list that stays -/
theorem new_tup {K : PySem.W.Frag} {c : Ct} {w : Wd} {σ : St} {k : VK} {vs : List V} {ds : List PyData} (bb : B K c w σ z) (hv : DqAll K w.S vs ds) (hk : Cont K c w σ Q k) (h : Q (.sh (.tuple ds)) z) : ∀ (p : Addr) (o : Obj), w.H p = none → o.dict = none → k (.ref p) (upd w.H p (.frz o (.tup vs))) := fun p o hp ho => by
  have l : w.Le ⟨w.rho, upd w.S p (.frz o (.tup vs)), upd w.H p (.frz o (.tup vs))⟩ := le_new (bb.freshS hp)
  exact hk (.ref p) (.sh (.tuple ds)) ⟨w.rho, upd w.S p (.frz o (.tup vs)), upd w.H p (.frz o (.tup vs))⟩ z (bb.newS hp) l (Dq.tup (.inl ⟨o, upd_same, ho⟩) (DpAll_mono l.st hv)) h
theorem new_lstF {K : PySem.W.Frag} {c : Ct} {w : Wd} {σ : St} {k : VK} {vs : List V} {ds : List PyData} (bb : B K c w σ z) (hv : DqAll K w.S vs ds) (hk : Cont K c w σ Q k) (h : Q (.sh (.list ds)) z) : ∀ p, w.H p = none → k (.ref p) (upd w.H p (.lst vs)) := fun p hp => by
  have l : w.Le ⟨w.rho, upd w.S p (.lst vs), upd w.H p (.lst vs)⟩ := le_new (bb.freshS hp)
  exact hk (.ref p) (.sh (.list ds)) ⟨w.rho, upd w.S p (.lst vs), upd w.H p (.lst vs)⟩ z (bb.newS hp) l (Dq.lst (.inl upd_same) (DpAll_mono l.st hv)) h
theorem new_lst {K : PySem.W.Frag} {c : Ct} {w : Wd} {σ : St} {k : VK} {vs : List V} {xs : List Sl} (bb : B K c w σ z) (hv : Paired (Vl K w) vs xs) (hk : Cont K c w σ Q k) (h : Q (.ob z.ob.length) ⟨z.sl, z.ob ++ [.lst xs]⟩) : ∀ p, w.H p = none → k (.ref p) (upd w.H p (.lst vs)) := fun p hp => by
  refine hk (.ref p) (.ob z.ob.length) ⟨w.rho ++ [p], w.S, upd w.H p (.lst vs)⟩ _ (bb.newO hp hv) le_obj ⟨p, ?_, rfl⟩ h
  show (w.rho ++ [p])[z.ob.length]? = some p
  rw [← bb.len, List.getElem?_append_right (Nat.le_refl _), Nat.sub_self]
  rfl
theorem we_tup {x1} (h : WA X es z fun xs z1 => ∃ ds, allSh xs = some ds ∧ xs.length ≤ 100000 ∧ Q (.sh (.tuple ds)) z1) : WE X (.Tuple es x1 pos) z Q := fun c w σ k bb hk =>
  tE_of (pe_tupP paB) (h c w σ _ bb fun vs xs w' z' b' l r ⟨ds, e, hl, hq⟩ => ⟨by rw [r.length]; exact Nat.le_trans hl (by decide), new_tup b' (allSh_dp e r) (hk.le l) hq⟩)
theorem we_lstF (h : WA X es z fun xs z1 => ∃ ds, allSh xs = some ds ∧ xs.length ≤ 100000 ∧ Q (.sh (.list ds)) z1) : WE X (.List es pos) z Q := fun c w σ k bb hk =>
  tE_of (pe_lst paB) (h c w σ _ bb fun vs xs w' z' b' l r ⟨ds, e, hl, hq⟩ => ⟨by rw [r.length]; exact Nat.le_trans hl (by decide), new_lstF b' (allSh_dp e r) (hk.le l) hq⟩)
theorem we_lst (h : WA X es z fun xs z1 => xs.length ≤ 100000 ∧ Q (.ob z1.ob.length) ⟨z1.sl, z1.ob ++ [.lst xs]⟩) : WE X (.List es pos) z Q := fun c w σ k bb hk =>
  tE_of (pe_lst paB) (h c w σ _ bb fun vs xs w' z' b' l r ⟨hl, hq⟩ => ⟨by rw [r.length]; exact Nat.le_trans hl (by decide), new_lst b' r (hk.le l) hq⟩)
end
end Dl

namespace Dl
open PySem PySem.Spec L2
open PyProof.Rows hiding St

/-! ### contexts within contexts; a thing aside -/
section
variable {K : PySem.W.Frag} {c : Ct} {w w' : Wd} {σ σ' : St} {z z' : Z}
def Wd.ct (w : Wd) : Ct := ⟨w.S, w.H, w.rho⟩
theorem B.self (b : B K c w σ z) : B K w.ct w σ z := ⟨b.same, b.len, b.nd, b.tr, b.sl, b.ob, fun _ _ h => h, fun _ _ h _ => h, fun a o h => .inl (by
  show w.S a ≠ none
  rw [h]
  simp), Same.refl _, fun i p hi e => by
    have h1 : i < w.rho.length := (List.getElem?_eq_some_iff.mp e).1
    exact absurd h1 (Nat.not_lt.mpr hi)⟩
theorem B.inOr (b : B K c w σ z) {a : Addr} (h : a ∈ w.rho) : c.H a = none ∨ a ∈ c.rho := by
  obtain ⟨i, hi⟩ := List.getElem?_of_mem h
  by_cases hlt : i < c.rho.length
  · have e5 : c.rho[i]? = some c.rho[i] := List.getElem?_eq_getElem hlt
    have e6 := b.pre i _ e5
    rw [hi] at e6
    exact .inr (Option.some.inj e6 ▸ List.getElem_mem hlt)
  · exact .inl (b.nr i a (by omega) hi)
theorem B.comp (b : B K c w σ z) (b' : B K w.ct w' σ' z') : B K c w' σ' z' := by
  refine ⟨b'.same, b'.len, b'.nd, b'.tr, b'.sl, b'.ob, fun i p h => b'.pre i p (b.pre i p h), fun a o h hn => ?_, fun a o h => ?_, b.st.trans b'.st, fun i p hi h => ?_⟩
  · by_cases ha : a ∈ w.rho
    · obtain ⟨i, hi⟩ := List.getElem?_of_mem ha
      by_cases hlt : i < c.rho.length
      · have e5 : c.rho[i]? = some c.rho[i] := List.getElem?_eq_getElem hlt
        have e6 := b.pre i _ e5
        rw [hi] at e6
        exact absurd (Option.some.inj e6 ▸ List.getElem_mem hlt) hn
      · have e6 := b.nr i a (by omega) hi
        rw [h] at e6
        cases e6
    · exact b'.fr a o (b.fr a o h hn) ha
  · rcases b'.nw a o h with q | q | q
    · cases e : w.S a with
      | none => exact absurd e q
      | some u => exact b.nw a u e
    · exact .inr (.inl (b.fresh q))
    · exact .inr (b.inOr q)
  · by_cases hlt : i < w.rho.length
    · have e : w.rho[i]? = some w.rho[i] := List.getElem?_eq_getElem hlt
      have e2 := b'.pre i _ e
      rw [h] at e2
      have e3 : p = w.rho[i] := Option.some.inj e2
      rw [← e3] at e
      exact b.nr i p hi e
    · have h2 : w.H p = none := b'.nr i p (Nat.not_lt.mp hlt) h
      exact b.fresh h2
theorem B.le (b : B K w.ct w' σ z) : w.Le w' := ⟨b.st, b.pre⟩
/-- a thing aside, tracked, none of the store's, not staying -/
structure Aside (c : Ct) (w : Wd) (D : Addr) : Prop where
  nr : D ∉ w.rho
  nS : w.S D = none
  nc : c.H D = none
theorem le_aside {D : Addr} {o : HO} : w.Le ⟨w.rho, w.S, upd w.H D o⟩ := ⟨Same.refl _, fun _ _ e => e⟩
theorem B.aside (b : B K c w σ z) {D : Addr} {o : HO} (h : Aside c w D) : B K c ⟨w.rho, w.S, upd w.H D o⟩ σ z := by
  have l : w.Le ⟨w.rho, w.S, upd w.H D o⟩ := le_aside
  refine ⟨fun a u e => ?_, b.len, b.nd, fun q hq => ?_, b.sl.mono fun _ _ q => q.mono l, fun i x q h1 h2 => ?_, b.pre, fun a u e hn => ?_, b.nw, b.st, b.nr⟩
  · show upd w.H D o a = some u
    rw [upd_ne (ne_of_none e h.nS)]
    exact b.same a u e
  · show upd w.H D o q ≠ none
    have hqD : q ≠ D := fun e => h.nr (e ▸ hq)
    rw [upd_ne hqD]
    exact b.tr q hq
  · have hq : q ≠ D := fun e => h.nr (e ▸ List.mem_of_getElem? h2)
    exact (b.ob i x q h1 h2).mono l (fun e => e) (by
      show upd w.H D o q = w.H q
      rw [upd_ne hq])
  · show upd w.H D o a = some u
    rw [upd_ne (ne_of_none e h.nc)]
    exact b.fr a u e hn
theorem B.asideNew (b : B K c w σ z) {D : Addr} (h : w.H D = none) : Aside c w D := ⟨fun hq => b.tr D hq h, b.freshS h, b.fresh h⟩
/-- it comes to stay -/
theorem le_stay {D : Addr} {o : HO} (h : w.S D = none) : w.Le ⟨w.rho, upd w.S D o, w.H⟩ := ⟨fun a u e => by
  show upd w.S D o a = some u
  rw [upd_ne (ne_of_none e h)]
  exact e, fun _ _ e => e⟩
theorem B.stay (b : B K c w σ z) {D : Addr} {o : HO} (h : Aside c w D) (hH : w.H D = some o) : B K c ⟨w.rho, upd w.S D o, w.H⟩ σ z := by
  have l : w.Le ⟨w.rho, upd w.S D o, w.H⟩ := le_stay h.nS
  refine ⟨fun a u e => ?_, b.len, b.nd, b.tr, b.sl.mono fun _ _ q => q.mono l, fun i x q h1 h2 => ?_, b.pre, b.fr, fun a u e => ?_, b.st.trans l.st, b.nr⟩
  · have e : upd w.S D o a = some u := e
    show w.H a = some u
    by_cases ha : a = D
    · subst ha
      rw [upd_same] at e
      rw [hH, e]
    · rw [upd_ne ha] at e
      exact b.same a u e
  · have hq : q ≠ D := fun e => h.nr (e ▸ List.mem_of_getElem? h2)
    exact (b.ob i x q h1 h2).mono l (fun e => by
      show upd w.S D o q = none
      rw [upd_ne hq]
      exact e) rfl
  · have e : upd w.S D o a = some u := e
    by_cases ha : a = D
    · exact .inr (.inl (ha ▸ h.nc))
    · rw [upd_ne ha] at e
      exact b.nw a u e
/-- it comes into the store -/
theorem le_push {ps : List Addr} : w.Le ⟨w.rho ++ ps, w.S, w.H⟩ := ⟨Same.refl _, fun i q e => by
  show (w.rho ++ ps)[i]? = some q
  rw [List.getElem?_append_left (List.getElem?_eq_some_iff.mp e).1]
  exact e⟩
theorem B.push (b : B K c w σ z) {D : Addr} {vs : List V} {xs : List Sl} (h : Aside c w D) (hH : w.H D = some (.lst vs)) (hv : Paired (Vl K w) vs xs) : B K c ⟨w.rho ++ [D], w.S, w.H⟩ σ ⟨z.sl, z.ob ++ [.lst xs]⟩ := by
  have l : w.Le ⟨w.rho ++ [D], w.S, w.H⟩ := le_push
  refine ⟨b.same, ?_, ?_, fun q hq => ?_, b.sl.mono fun _ _ q => q.mono l, fun i x q h1 h2 => ?_, fun i q e => l.rho i q (b.pre i q e), b.fr, b.nw, b.st, fun i q hi e => ?_⟩
  · show (w.rho ++ [D]).length = (z.ob ++ [OO.lst xs]).length
    rw [List.length_append, List.length_append, b.len]
    rfl
  · exact List.nodup_append.mpr ⟨b.nd, by simp, fun a ha q hq => by
      rw [List.mem_singleton] at hq
      subst hq
      exact fun e => h.nr (e ▸ ha)⟩
  · show w.H q ≠ none
    rcases List.mem_append.mp hq with hq | hq
    · exact b.tr q hq
    · rw [List.mem_singleton] at hq
      rw [hq, hH]
      simp
  · have h1 : (z.ob ++ [OO.lst xs])[i]? = some x := h1
    have h2 : (w.rho ++ [D])[i]? = some q := h2
    by_cases hi : i < w.rho.length
    · rw [List.getElem?_append_left hi] at h2
      rw [List.getElem?_append_left (b.len ▸ hi)] at h1
      exact (b.ob i x q h1 h2).mono l (fun e => e) rfl
    · have hi2 : i = w.rho.length := by
        have := (List.getElem?_eq_some_iff.mp h2).1
        rw [List.length_append] at this
        simp at this
        omega
      subst hi2
      rw [List.getElem?_append_right (Nat.le_refl _), Nat.sub_self] at h2
      rw [b.len, List.getElem?_append_right (Nat.le_refl _), Nat.sub_self] at h1
      cases h1
      cases h2
      exact ⟨h.nS, vs, hH, hv.mono fun _ _ q => q.mono l⟩
  · have e : (w.rho ++ [D])[i]? = some q := e
    by_cases hi2 : i < w.rho.length
    · rw [List.getElem?_append_left hi2] at e
      exact b.nr i q hi e
    · have : q ∈ [D] := by
        rw [List.getElem?_append_right (by omega)] at e
        exact List.mem_of_getElem? e
      rw [List.mem_singleton] at this
      subst this
      exact h.nc
/-- behind a piece that was entered here it is as it was -/
theorem Aside.on {D : Addr} {o : HO} (b : B K c w σ z) (h : Aside c w D) (hH : w.H D = some o) (b' : B K w.ct w' σ' z') : Aside c w' D ∧ w'.H D = some o := by
  refine ⟨⟨fun hq => ?_, ?_, h.nc⟩, b'.fr D o hH h.nr⟩
  · obtain ⟨i, hi⟩ := List.getElem?_of_mem hq
    by_cases hlt : i < w.rho.length
    · have e : w.rho[i]? = some w.rho[i] := List.getElem?_eq_getElem hlt
      have e2 := b'.pre i _ e
      rw [hi] at e2
      exact h.nr (Option.some.inj e2 ▸ List.getElem_mem hlt)
    · have h2 : w.H D = none := b'.nr i D (Nat.not_lt.mp hlt) hi
      rw [hH] at h2
      cases h2
  · cases e : w'.S D with
    | none => rfl
    | some u =>
      rcases b'.nw D u e with q | q | q
      · exact absurd h.nS q
      · have q : w.H D = none := q
        rw [hH] at q
        cases q
      · exact absurd q h.nr
end

/-! ### statements -/
section
variable {X : Cx} {e a b : Expr} {es : List Expr} {z : Z} {pos : Pos} {Q Q' : Out → Prop} {st : Stmt} {rest body orelse : List Stmt}
def Seq (X : Cx) (rest : List Stmt) (Q : Out → Prop) : Out → Prop
  | .nx z => WS X rest z Q
  | o => Q o
theorem seq_nx (h : WS X rest z Q) : Seq X rest Q (.nx z) := h
theorem seq_rt {x : Sl} (h : Q (.rt x z)) : Seq X rest Q (.rt x z) := h
theorem seq_bk (h : Q (.bk z)) : Seq X rest Q (.bk z) := h
theorem seq_ct (h : Q (.ct z)) : Seq X rest Q (.ct z) := h
theorem ws_nil (h : Q (.nx z)) : WS X [] z Q := fun c w σ D bb hk => tSs_of pss_nil (hk.nx w σ z bb (.refl w) h)
theorem ws_cons (h : W1 X st z (Seq X rest Q)) : WS X (st :: rest) z Q := fun c w σ D bb hk => tSs_of (pss_cons psB pssB) (h c w σ { D with nx := fun σ' H' => tSs X rest D σ' H' } bb
  ⟨fun w' σ' z' b' l q => q c w' σ' D b' (hk.le l), fun v x w' σ' z' b' l r q => hk.rt v x w' σ' z' b' l r q, fun w' σ' z' b' l q => hk.bk w' σ' z' b' l q, fun w' σ' z' b' l q => hk.ct w' σ' z' b' l q⟩)
theorem w1_pass (h : Q (.nx z)) : W1 X (.Pass pos) z Q := fun c w σ D bb hk => tS_of ps_pass (hk.nx w σ z bb (.refl w) h)
theorem w1_break (h : Q (.bk z)) : W1 X (.Break pos) z Q := fun c w σ D bb hk => tS_of ps_break (hk.bk w σ z bb (.refl w) h)
theorem w1_cont (h : Q (.ct z)) : W1 X (.Continue pos) z Q := fun c w σ D bb hk => tS_of ps_continue (hk.ct w σ z bb (.refl w) h)
theorem w1_doc {x j pos'} (h : Q (.nx z)) : W1 X (.Expr (.Constant (.str x) j pos) pos') z Q := fun c w σ D bb hk => tS_of ps_doc (hk.nx w σ z bb (.refl w) h)
theorem w1_expr (h : WE X e z fun _ z1 => Q (.nx z1)) (hs : swapsWith e none pos.line X.env = pure false := by rfl) : W1 X (.Expr e pos) z Q := fun c w σ D bb hk =>
  tS_of (ps_expr peB hs) (h c w σ _ bb fun v x w' z' b' l r q => hk.nx w' σ z' b' l q)
theorem w1_ret (h : WE X e z fun x z1 => Q (.rt x z1)) : W1 X (.Return (some e) pos) z Q := fun c w σ D bb hk =>
  tS_of (ps_ret peB) (h c w σ _ bb fun v x w' z' b' l r q => hk.rt v x w' σ z' b' l r q)
theorem w1_retN (h : Q (.rt (.sh .none) z)) : W1 X (.Return none pos) z Q := fun c w σ D bb hk => tS_of ps_retN (hk.rt .non _ w σ z bb (.refl w) vN h)
theorem w1_set {i : Nat} {y : Str} {pos' : Pos} (hN : X.N.Nodup) (hi : X.N[i]? = some y) (hx : Loc X.env.scope y) (h : WE X e z fun x z1 => Q (.nx ⟨z1.sl.set i x, z1.ob⟩)) (hs : swapsWith e (some (.Name y pos')) pos.line X.env = pure false := by rfl)
    (hf : X.fn y = true ∨ X.env.scope.names.lookup y = some .local := by first | exact .inl rfl | exact .inr rfl) : W1 X (.Assign [.Name y pos'] e pos) z Q := fun c w σ D bb hk =>
  tS_of (ps_set hN hi hx peB hs hf) (h c w σ _ bb fun v x w' z' b' l r q => hk.nx w' _ _ (b'.setSl r) l q)
theorem w1_if {t : Expr} (h : WT X t z fun d z1 => (d = true → WS X body z1 Q) ∧ (d = false → WS X orelse z1 Q)) : W1 X (.If t body orelse pos) z Q := fun c w σ D bb hk =>
  tS_of (ps_if ptB pssB pssB) (h c w σ _ bb fun d w' z' b' l hp => by
    cases d with
    | true =>
      show tSs X body D σ w'.H
      exact hp.1 rfl c w' σ D b' (hk.le l)
    | false =>
      show tSs X orelse D σ w'.H
      exact hp.2 rfl c w' σ D b' (hk.le l))
def LoopQ (N : Z → Prop) (Q : Out → Prop) : Out → Prop
  | .nx z => N z
  | .ct z => N z
  | .bk z => Q (.nx z)
  | .rt x z => Q (.rt x z)
theorem w1_while {t : Expr} (I : Nat → Z → Prop) {m : Nat} (h0 : I m z) (h : ∀ n z, I n z → WT X t z fun d z1 => (d = true → WS X body z1 (LoopQ (fun z2 => ∃ n', n' < n ∧ I n' z2) Q)) ∧ (d = false → Q (.nx z1)))
    (hp : PassesOwn (model X.prog X.w) X.A X.env X.xe := by exact PassesOwn.never) : W1 X (.While t body [] pos) z Q := fun c w σ D bb hk =>
  tS_of (ps_while hp ptB pssB) ⟨fun n σ' H' => ∃ w' z', B X.K c w' σ' z' ∧ w.Le w' ∧ w'.H = H' ∧ I n z', ⟨m, w, z, bb, .refl w, rfl, h0⟩, by
    rintro n σ1 H1 ⟨w1, z1, b1, l1, rfl, hI⟩
    refine h n z1 hI c w1 σ1 _ b1 fun d w2 z2 b2 l2 hp => ?_
    cases d with
    | true =>
      show ∃ N : St → Hp → Prop, _
      refine ⟨fun σ' H' => ∃ n', n' < n ∧ ∃ w' z', B X.K c w' σ' z' ∧ w.Le w' ∧ w'.H = H' ∧ I n' z', fun σ' H' ⟨n', hn, q⟩ => ⟨n', hn, q⟩, ?_⟩
      have l3 := l1.trans l2
      exact hp.1 rfl c w2 σ1 _ b2 ⟨fun w' σ' z' b' l ⟨n', hn, q⟩ => ⟨n', hn, w', z', b', l3.trans l, rfl, q⟩, fun v x w' σ' z' b' l r q => hk.rt v x w' σ' z' b' (l3.trans l) r q,
        fun w' σ' z' b' l q => hk.nx w' σ' z' b' (l3.trans l) q, fun w' σ' z' b' l ⟨n', hn, q⟩ => ⟨n', hn, w', z', b', l3.trans l, rfl, q⟩⟩
    | false =>
      show D.nx σ1 w2.H
      exact hk.nx w2 σ1 z2 b2 (l1.trans l2) (hp.2 rfl)⟩
end

/-! ### targets -/
def GD (K : PySem.W.Frag) (vs : List Nat) (g : TG) (y : Sl) (z : Z) (Q : Z → Prop) : Prop := ∀ c w σ v (k : St → Hp → Prop), B K c w σ z → Vl K w v y → (∀ w' σ' z', B K c w' σ' z' → w.Le w' → wipe σ' vs = wipe σ vs → Q z' → k σ' w'.H) → g v σ w.H k
theorem wipe_set : ∀ (vs : List Nat) (σ : St) (i : Nat) (o : Option V), i ∈ vs → wipe (σ.set i o) vs = wipe σ vs
  | v :: vs, σ, i, o, h => by
    show (wipe (σ.set i o) vs).set v none = (wipe σ vs).set v none
    by_cases hi : i ∈ vs
    · rw [wipe_set vs σ i o hi]
    · have hv : i = v := by
        rcases List.mem_cons.mp h with h | h
        · exact h
        · exact absurd h hi
      subst hv
      have e : ∀ (us : List Nat) (τ : St), wipe (τ.set i o) us = (wipe τ us).set i o ∨ wipe (τ.set i o) us = wipe τ us := fun us => by
        induction us with
        | nil => exact fun τ => .inl rfl
        | cons u us ih =>
          intro τ
          show (wipe (τ.set i o) us).set u none = _ ∨ (wipe (τ.set i o) us).set u none = _
          rcases ih τ with q | q
          · rw [q]
            by_cases hu : i = u
            · subst hu
              right
              show _ = (wipe τ us).set i none
              rw [List.set_set]
            · left
              show _ = ((wipe τ us).set u none).set i o
              rw [List.set_comm _ _ hu]
          · right
            rw [q]
            rfl
      rcases e vs σ with q | q
      · rw [q, List.set_set]
      · rw [q]
theorem gd_name {K : PySem.W.Frag} {vs : List Nat} {i : Nat} {y : Sl} {z : Z} {Q : Z → Prop} (hi : i ∈ vs) (h : Q ⟨z.sl.set i y, z.ob⟩) : GD K vs (gName i) y z Q := fun c w σ v k bb r hk => hk w _ _ (bb.setSl r) (.refl w) (wipe_set vs σ i _ hi) h
/-- several names -/
def gNames : List Nat → TGs
  | [] => gNil
  | i :: is => gCons (gName i) (gNames is)
def setSls (sl : List Sl) : List Nat → List PyData → List Sl
  | i :: is, d :: ds => setSls (sl.set i (.sh d)) is ds
  | _, _ => sl
theorem gds_names {K : PySem.W.Frag} {vs : List Nat} {Q : Z → Prop} : ∀ {is : List Nat} {ds : List PyData} {z : Z}, (∀ i ∈ is, i ∈ vs) → ds.length = is.length → Q ⟨setSls z.sl is ds, z.ob⟩ →
    ∀ c w σ us (k : St → Hp → Prop), B K c w σ z → DqAll K w.S us ds → (∀ σ' z', B K c w σ' z' → wipe σ' vs = wipe σ vs → Q z' → k σ' w.H) → gNames is us σ w.H k
  | [], [], z, hv, hl, h, c, w, σ, us, k, bb, r, hk => by
    cases r
    exact ⟨rfl, hk σ z bb rfl h⟩
  | i :: is, d :: ds, z, hv, hl, h, c, w, σ, us, k, bb, r, hk => by
    cases r with
    | cons r rs =>
      refine ⟨_, _, rfl, ?_⟩
      have bb2 := bb.setSl (i := i) (vsh r)
      exact gds_names (z := ⟨z.sl.set i (.sh d), z.ob⟩) (fun j hj => hv j (List.mem_cons_of_mem _ hj)) (by simpa using hl) h c w _ _ k bb2 rs fun σ' z' b' e q => hk σ' z' b' (e.trans (wipe_set vs σ i _ (hv i List.mem_cons_self))) q
theorem Dp_tupI {K : PySem.W.Frag} {H : Hp} {v : V} {ds : List PyData} (h : Dq K H v (.tuple ds)) : ∃ a xs, v = .ref a ∧ SqT K H a xs ∧ DqAll K H xs ds := by
  cases h with
  | tup h hs => exact ⟨_, _, rfl, h.sq, hs⟩
theorem Dp_tupP {K : PySem.W.Frag} {H : Hp} {v : V} {ds : List PyData} (h : Dq K H v (.tuple ds)) : ∃ a xs, v = .ref a ∧ PlT K H a xs ∧ DqAll K H xs ds := by
  cases h with
  | tup h hs => exact ⟨_, _, rfl, h, hs⟩
theorem Dp_lstI {K : PySem.W.Frag} {H : Hp} {v : V} {ds : List PyData} (h : Dq K H v (.list ds)) : ∃ a xs, v = .ref a ∧ Rd H a (.lst xs) ∧ DqAll K H xs ds := by
  cases h with
  | lst h hs => exact ⟨_, _, rfl, h, hs⟩
theorem DpAll_len {K : PySem.W.Frag} {H : Hp} : ∀ {vs : List V} {ds : List PyData}, DqAll K H vs ds → vs.length = ds.length
  | _, _, .nil => rfl
  | _, _, .cons _ t => by simp [DpAll_len t]
theorem gd_tup {K : PySem.W.Frag} {vs is : List Nat} {n : Nat} {y : Sl} {ds : List PyData} {z : Z} {Q : Z → Prop} (hy : y = .sh (.tuple ds)) (hv : ∀ i ∈ is, i ∈ vs) (hl : ds.length = is.length) (hn : is.length = n) (h : Q ⟨setSls z.sl is ds, z.ob⟩) : GD K vs (gTup K n (gNames is)) y z Q := by
  subst hy
  intro c w σ v k bb r hk
  obtain ⟨a, xs, rfl, hq, hs⟩ := Dp_tupI r
  exact ⟨a, xs, rfl, Same.tup bb.same hq, by rw [DpAll_len hs, hl, hn], gds_names hv hl h c w σ xs k bb hs fun σ' z' b' e q => hk w σ' z' b' (.refl w) e q⟩

theorem gd_tp {K : PySem.W.Frag} {vs is : List Nat} {n : Nat} {y : Sl} {ds : List PyData} {z : Z} {Q : Z → Prop} (hy : y = .tp ds) (hv : ∀ i ∈ is, i ∈ vs) (hl : ds.length = is.length) (hn : is.length = n) (h : Q ⟨setSls z.sl is ds, z.ob⟩) : GD K vs (gTup K n (gNames is)) y z Q := by
  subst hy
  intro c w σ v k bb r hk
  obtain ⟨a, xs, rfl, hq, hs⟩ := r
  exact ⟨a, xs, rfl, Same.tup bb.same hq, by rw [DpAll_len hs, hl, hn], gds_names hv hl h c w σ xs k bb hs fun σ' z' b' e q => hk w σ' z' b' (.refl w) e q⟩
/-! ### what is walked -/
structure DW (K : PySem.W.Frag) (c : Ct) (w0 : Wd) (J : It) (G : Z → Prop) (ys : List Sl) : Prop where
  goes : ∀ (i : Nat) (c' : Ct) (w : Wd) (σ : St) (z : Z), i < ys.length → B K c' w σ z → w0.Le w → G z → J.go i w.H
  stops : ∀ (c' : Ct) (w : Wd) (σ : St) (z : Z), B K c' w σ z → w0.Le w → G z → J.stop ys.length w.H
  yields : ∀ (i : Nat) (c' : Ct) (w : Wd) (σ : St) (z : Z) (x : V) (H' : Hp) (y : Sl), ys[i]? = some y → B K c' w σ z → w0.Le w → G z → J.yld i w.H x H' → ∃ w', w'.H = H' ∧ B K c' w' σ z ∧ w.Le w' ∧ Vl K w' x y
def tI (X : Cx) (tg iter : Expr) : TI := fun σ H R => ∀ (pins : List (Addr × Obj)) (s : Shared), Inv X pins σ H s →
    wpAny (model X.prog X.w) X.A (eval iter X.env) (fun v s1 => wpAny (model X.prog X.w) X.A (pyIter v) (PIE X pins σ tg R) X.xe s1) X.xe s
theorem piB {X : Cx} {tg iter : Expr} : PI X tg iter (tI X tg iter) := ⟨fun pins s _ _ _ I h => h pins s I⟩
theorem tI_of {X : Cx} {tg iter : Expr} {t : TI} {σ : St} {H : Hp} {R : It → Hp → Prop} (p : PI X tg iter t) (h : t σ H R) : tI X tg iter σ H R := fun pins s I => p.run pins s σ H R I h
def WI (X : Cx) (tg iter : Expr) (z : Z) (R : List Sl → (Z → Prop) → Z → Prop) : Prop := ∀ c w σ (k : It → Hp → Prop), B X.K c w σ z →
  (∀ J ys G w1 z1, B X.K c w1 σ z1 → w.Le w1 → DW X.K c w1 J G ys → R ys G z1 → k J w1.H) → tI X tg iter σ w.H k
section
variable {X : Cx} {tg iter e : Expr} {z : Z} {pos : Pos} {R : List Sl → (Z → Prop) → Z → Prop}
/-- a list: data that stays | an object -/
inductive LstAt (z : Z) : Sl → List Sl → (Z → Prop) → Prop
  | sh (ds : List PyData) : LstAt z (.sh (.list ds)) (ds.map .sh) (fun _ => True)
  | ob (i : Nat) (xs : List Sl) : z.ob[i]? = some (.lst xs) → LstAt z (.ob i) xs (fun z' => z'.ob[i]? = some (.lst xs))
theorem wi_list (h : WE X iter z fun x z1 => ∃ ys G, LstAt z1 x ys G ∧ R ys G z1) : WI X tg iter z R := fun c w σ k bb hk =>
  tI_of (pi_list peB) (h c w σ _ bb fun v x w1 z1 b1 l1 r1 ⟨ys, G, hL, hR⟩ => by
    cases hL with
    | sh ds =>
      obtain ⟨a, xs, rfl, hq, hs⟩ := Dp_lstI r1
      have hlen : xs.length = (ds.map Sl.sh).length := by rw [List.length_map, DpAll_len hs]
      refine ⟨a, rfl, ⟨xs, b1.same.seq (.inl hq)⟩, hk (Itl X.K a) _ _ w1 z1 b1 l1 ⟨fun i c' w2 σ2 z2 hi b2 l2 _ => ?_, fun c' w2 σ2 z2 b2 l2 _ => ?_, fun i c' w2 σ2 z2 x H' y hy b2 l2 _ ⟨e, hx⟩ => ?_⟩ hR⟩
      · rw [← hlen] at hi
        exact ⟨xs, xs[i], b2.same.seq (l2.st.seq (.inl hq)), List.getElem?_eq_getElem hi⟩
      · exact ⟨xs, b2.same.seq (l2.st.seq (.inl hq)), by rw [hlen]; exact Nat.le_refl _⟩
      · obtain ⟨v, e1, q1⟩ := paired_get (dp_allSh (w := w1) hs) hy
        have e2 := hx xs (b2.same.seq (l2.st.seq (.inl hq)))
        rw [e1] at e2
        cases e2
        exact ⟨w2, e.symm, b2, .refl w2, q1.mono l2⟩
    | ob i xs hi =>
      obtain ⟨a, ha, rfl⟩ := r1
      obtain ⟨_, us, hu, hp⟩ := b1.ob i _ a hi ha
      refine ⟨a, rfl, ⟨us, .inl (.inl hu)⟩, hk (Itl X.K a) _ _ w1 z1 b1 l1 ⟨fun j c' w2 σ2 z2 hj b2 l2 hG => ?_, fun c' w2 σ2 z2 b2 l2 hG => ?_, fun j c' w2 σ2 z2 x H' y hy b2 l2 hG ⟨e, hx⟩ => ?_⟩ hR⟩
      · obtain ⟨_, us2, hu2, hp2⟩ := b2.ob i _ a hG (l2.rho i a ha)
        rw [← hp2.length] at hj
        exact ⟨us2, us2[j], .inl (.inl hu2), List.getElem?_eq_getElem hj⟩
      · obtain ⟨_, us2, hu2, hp2⟩ := b2.ob i _ a hG (l2.rho i a ha)
        exact ⟨us2, .inl (.inl hu2), by rw [hp2.length]; exact Nat.le_refl _⟩
      · obtain ⟨_, us2, hu2, hp2⟩ := b2.ob i _ a hG (l2.rho i a ha)
        obtain ⟨v, e1, q1⟩ := paired_get hp2 hy
        have e2 := hx us2 (.inl (.inl hu2))
        rw [e1] at e2
        cases e2
        exact ⟨w2, e.symm, b2, .refl w2, q1⟩)
theorem wi_tup (h : WE X iter z fun x z1 => ∃ ds, x = .sh (.tuple ds) ∧ R (ds.map .sh) (fun _ => True) z1) : WI X tg iter z R := fun c w σ k bb hk =>
  tI_of (pi_tup peB) (h c w σ _ bb fun v x w1 z1 b1 l1 r1 ⟨ds, hL, hR⟩ => by
    subst hL
    obtain ⟨a, xs, rfl, hq, hs⟩ := Dp_tupI r1
    have hlen : xs.length = (ds.map Sl.sh).length := by rw [List.length_map, DpAll_len hs]
    refine ⟨a, rfl, ⟨xs, Same.tup b1.same hq⟩, hk (Itt X.K a) _ _ w1 z1 b1 l1 ⟨fun i c' w2 σ2 z2 hi b2 l2 _ => ?_, fun c' w2 σ2 z2 b2 l2 _ => ?_, fun i c' w2 σ2 z2 x H' y hy b2 l2 _ ⟨e, hx⟩ => ?_⟩ hR⟩
    · rw [← hlen] at hi
      exact ⟨xs, xs[i], Same.tup b2.same (Same.tup l2.st hq), List.getElem?_eq_getElem hi⟩
    · exact ⟨xs, Same.tup b2.same (Same.tup l2.st hq), by rw [hlen]; exact Nat.le_refl _⟩
    · obtain ⟨v, e1, q1⟩ := paired_get (dp_allSh (w := w1) hs) hy
      have e2 := hx xs (Same.tup b2.same (Same.tup l2.st hq))
      rw [e1] at e2
      cases e2
      exact ⟨w2, e.symm, b2, .refl w2, q1.mono l2⟩)
def rngL (lo : Int) (n : Nat) : List Sl := (List.range n).map fun (k : Nat) => .sh (.int (lo + (k : Int)))
theorem dw_rng {K : PySem.W.Frag} {c : Ct} {w : Wd} {lo : Int} {n : Nat} : DW K c w (Itr lo n) (fun _ => True) (rngL lo n) := by
  have hl : (rngL lo n).length = n := by simp [rngL]
  refine ⟨fun i c' w2 σ2 z2 hi b2 l2 _ => ?_, fun c' w2 σ2 z2 b2 l2 _ => ?_, fun i c' w2 σ2 z2 x H' y hy b2 l2 _ ⟨e, hx⟩ => ?_⟩
  · rw [hl] at hi
    exact hi
  · rw [hl]
    exact Nat.le_refl _
  · subst hx
    have hi : i < n := by
      have := (List.getElem?_eq_some_iff.mp hy).1
      rw [hl] at this
      exact this
    unfold rngL at hy
    rw [List.getElem?_map, List.getElem?_range hi] at hy
    cases hy
    exact ⟨w2, e.symm, b2, .refl w2, vI _⟩
theorem wi_rng1 {p : Pos} (hg : Gl X "range") (hm : X.mg "range" = none) (h : WE X e z fun x z1 => ∃ n : Int, x = .sh (.int n) ∧ -(2 ^ 62) ≤ n ∧ n < 2 ^ 62 ∧ R (rngL 0 n.toNat) (fun _ => True) z1) (hs : starEach [e] X.env = [(false, eval e X.env)] := by rfl) :
    WI X tg (.Call (.Name "range" p) [e] [] pos) z R := fun c w σ k bb hk =>
  tI_of (pi_range1 hg hm (pa_cons peB pa_nil hs) hs) (h c w σ _ bb fun v x w1 z1 b1 l1 r1 ⟨n, e, h1, h2, hR⟩ => by
    subst e
    cases Dp_int r1
    exact ⟨n, rfl, h1, h2, hk _ _ _ w1 z1 b1 l1 dw_rng hR⟩)
theorem wi_rng2 {a b : Expr} {p : Pos} (hg : Gl X "range") (hm : X.mg "range" = none) (h : WE X a z fun x z1 => WE X b z1 fun y z2 => ∃ i j : Int, x = .sh (.int i) ∧ y = .sh (.int j) ∧ (-(2 ^ 62) ≤ i ∧ i < 2 ^ 62 ∧ -(2 ^ 62) ≤ j ∧ j < 2 ^ 62) ∧ R (rngL i (j - i).toNat) (fun _ => True) z2)
    (hs : starEach [a, b] X.env = [(false, eval a X.env), (false, eval b X.env)] := by rfl) (hs2 : starEach [b] X.env = [(false, eval b X.env)] := by rfl) :
    WI X tg (.Call (.Name "range" p) [a, b] [] pos) z R := fun c w σ k bb hk =>
  tI_of (pi_range2 hg hm (pa_cons peB (pa_cons peB pa_nil hs2) (by rw [hs, hs2])) hs hs2) (h c w σ _ bb fun v x w1 z1 b1 l1 r1 h1 => h1 c w1 σ _ b1 fun u y w2 z2 b2 l2 r2 ⟨i, j, e1, e2, hb, hR⟩ => by
    subst e1 e2
    cases Dp_int r1
    cases Dp_int r2
    exact ⟨i, j, rfl, hb, hk _ _ _ w2 z2 b2 (l1.trans l2) dw_rng hR⟩)
end

/-! ### for -/
section
variable {X : Cx} {tg iter e : Expr} {z : Z} {pos : Pos} {Q : Out → Prop} {body : List Stmt}
theorem w1_for {g : TG} {vs : List Nat} (hg : PG X tg g) (h : WI X tg iter z fun ys G z1 => ∃ I : Nat → Z → Prop, I 0 z1 ∧ (∀ i z2, i ≤ ys.length → I i z2 → G z2) ∧
      (∀ i y z2, ys[i]? = some y → I i z2 → GD X.K vs g y z2 fun z3 => WS X body z3 (LoopQ (I (i + 1)) Q)) ∧ ∀ z2, I ys.length z2 → Q (.nx z2))
    (hc : X.calm = true := by rfl) (hp : PassesOwn (model X.prog X.w) X.A X.env X.xe := by exact PassesOwn.never) (hs : ∀ x, foldedSetIterable iter X.env x = pure x := by intro _; rfl) : W1 X (.For tg iter body [] pos) z Q := fun c w σ D bb hk =>
  tS_of (ps_for hp hc piB hg pssB hs) (h c w σ _ bb fun J ys G w1 z1 b1 l1 dw ⟨I, h0, hG, hs, hd⟩ => by
    refine ⟨fun i m σ' H' => m = ys.length - i ∧ i ≤ ys.length ∧ ∃ w' z', B X.K c w' σ' z' ∧ w1.Le w' ∧ w'.H = H' ∧ I i z', ⟨ys.length, by simp, Nat.zero_le _, w1, z1, b1, .refl w1, rfl, h0⟩, ?_⟩
    rintro i m σ2 H2 ⟨rfl, hi, w2, z2, b2, l2, rfl, hI⟩
    by_cases hlt : i < ys.length
    · refine .inr ⟨dw.goes i c w2 σ2 z2 hlt b2 l2 (hG i z2 hi hI), fun σ' H' => ∃ w' z', B X.K c w' σ' z' ∧ w1.Le w' ∧ w'.H = H' ∧ I (i + 1) z', fun σ' H' q => ⟨ys.length - (i + 1), by omega, rfl, hlt, q⟩, fun x H' y => ?_⟩
      have hy : ys[i]? = some ys[i] := List.getElem?_eq_getElem hlt
      obtain ⟨w3, rfl, b3, l3, r3⟩ := dw.yields i c w2 σ2 z2 x H' ys[i] hy b2 l2 (hG i z2 hi hI) y
      refine hs i ys[i] z2 hy hI c w3 σ2 x _ b3 r3 fun w4 σ4 z4 b4 l4 _ hw => ?_
      have l5 : w1.Le w4 := (l2.trans l3).trans l4
      exact hw c w4 σ4 _ b4 ⟨fun w' σ' z' b' l q => ⟨w', z', b', l5.trans l, rfl, q⟩, fun v x w' σ' z' b' l r q => hk.rt v x w' σ' z' b' ((l1.trans l5).trans l) r q,
        fun w' σ' z' b' l q => hk.nx w' σ' z' b' ((l1.trans l5).trans l) q, fun w' σ' z' b' l q => ⟨w', z', b', l5.trans l, rfl, q⟩⟩
    · have e : i = ys.length := by omega
      subst e
      exact .inl ⟨dw.stops c w2 σ2 z2 b2 l2 (hG _ z2 hi hI), hk.nx w2 σ2 z2 b2 (l1.trans l2) (hd z2 hI)⟩)
end
end Dl

namespace Dl
open PySem PySem.Spec L2
open PyProof.Rows hiding St

/-! ### defs called where no repr is under way -/
structure RoomG (k : Nat) (A : Around) : Prop where
  r : Room k A
  g : A.guards = some []
theorem RoomG.mono {j k : Nat} {A : Around} (hr : RoomG k A) (h : j ≤ k) : RoomG j A := ⟨hr.r.mono h, hr.g⟩
theorem RoomG.deeper {k : Nat} {A : Around} (hr : RoomG (k + 1) A) (env : Env) : RoomG k (A.deeper env) := ⟨hr.r.deeper env, hr.g⟩
structure FnG (P : Program) (w : World) (K : PySem.W.Frag) (mg : Str → Option Value) (base : Heap) (CX : CXT) (k : Nat) (f : Addr) (fd : FuncData) (ps : List Str) (sp : Sp) : Prop where
  ln : ∀ vs H Q E, sp vs H Q E → vs.length = ps.length
  go : ∀ (A : Around) (outer : List Env) (s : Shared) (H : Hp) (args : Args) (us : List Value) (vs : List V) (Q : VK) (E : XK), RoomG k A → Env0 P w K mg base A outer s H → BindsTo s fd args (ps.zip us) → Vals vs us → sp vs H Q E → codeAny (model P w) A (.call (.ref f) args) (CR CX outer P w H s Q E) s
section
variable {P : Program} {w : World} {K : PySem.W.Frag} {mg : Str → Option Value} {base : Heap} {CX : CXT} {j k : Nat} {f : Addr} {fd : FuncData} {ps N : List Str} {sp sp' : Sp}
theorem FnG.mono (F : FnG P w K mg base CX j f fd ps sp) (h : j ≤ k) : FnG P w K mg base CX k f fd ps sp := ⟨F.ln, fun A o s H as us vs Q E hr => F.go A o s H as us vs Q E (hr.mono h)⟩
theorem FnG.imp (F : FnG P w K mg base CX k f fd ps sp) (h : ∀ vs H Q E, sp' vs H Q E → sp vs H Q E) : FnG P w K mg base CX k f fd ps sp' := ⟨fun vs H Q E q => F.ln vs H Q E (h vs H Q E q), fun A o s H as us vs Q E hr e b v q => F.go A o s H as us vs Q E hr e b v (h vs H Q E q)⟩
theorem fnG_of {name qual : Str} {params : Arguments} {body : List Stmt} {scope : Scope} {dV kV doc pm cdv ct oc : Value} {an od : Option Addr} {osl : Array (Option Value)} (lk : K.lookup f = some ⟨oc, od, .func (PySem.W.fnOf name qual params body scope dV kV doc pm an cdv ct), osl⟩) (hcd : PySem.W.codeIn K cdv qual = true) (S : FnScope N ps scope)
    (ln : ∀ vs H Q E, sp vs H Q E → vs.length = ps.length)
    (hb : ∀ (A : Around) (outer : List Env) (s : Shared) (H : Hp) (vs : List V) (Q : VK) (E : XK), RoomG k (A.deeper (envOfC qual scope s.heap.objs.size f cdv)) → sp vs H Q E → ∃ t, PSs (cxOf CX P w K mg base N qual scope f cdv A outer s H E) body t ∧ t { nx := fun _ H' => Q .non H', rt := Q } (start N vs) H) :
    FnG P w K mg base CX (k + 1) f (PySem.W.fnOf name qual params body scope dV kV doc pm an cdv ct) ps sp := by
  refine ⟨ln, fun A outer s H as us vs Q E rm env0 bnd rel q0 => ?_⟩
  have keep0 : ∀ b o, base.get? b = some o → s.heap.get? b = some o := fun b o e => (env0.bs b o e).1
  have kin := env0.mod.kin.keeps keep0
  have nolim := env0.mod.nolimit.keeps keep0
  have kinds : ∀ y ∈ ps.zip us, scope.names.lookup y.1 = some .local ∨ (scope.names.lookup y.1 = some .cell ∧ ((cellsFrom (s.heap.objs.size + 1) scope.names []).lookup y.1).isSome = true) := by
    rintro ⟨n, v⟩ hy
    exact (S.par n (List.of_mem_zip hy).1).imp (fun q => q) fun q => ⟨q, PySem.W.cellsFrom_some _ _ _ (.inl q)⟩
  refine codeAny_call_function rm.r.depth (kin _ _ lk) rfl S.co S.gen rfl (PySem.W.codeRec_of kin hcd) (bnd _ _ _ _ ?_)
  refine wpAny_newFunctionEnv_cells S.kind kinds fun e0 he0 s1 st => ?_
  subst he0
  refine ⟨nolim.keeps st.toInCall.keep, codeAny_func ?_⟩
  obtain ⟨t, pt, tq⟩ := hb A outer s H vs Q E (rm.deeper _) q0
  refine wpAny_mono (pt.run [] s1 (start N vs) H _ (inv_start S rm.r.hd env0 (ln _ _ _ _ q0) rel st) tq) (fun fl s' hs => ?_) fun _ _ hs => hs
  match fl, hs with
  | .ret u, ⟨v, σ', H', J, rv, q⟩ => exact ⟨v, H', J.os, J.bare, J.base, J.hok, rv, q⟩
  | .next, ⟨σ', H', J, q⟩ => exact ⟨V.non, H', J.os, J.bare, J.base, J.hok, rfl, q⟩
  | .brk, ⟨_, _, _, q⟩ => exact q.elim
  | .cont, ⟨_, _, _, q⟩ => exact q.elim
end
section
variable {X : Cx} {CX : CXT} {k : Nat} {f : Addr} {fd : FuncData} {ps : List Str} {sp : Sp} {E : XK} {x : Str} {p pos : Pos} {e : Expr} {es : List Expr} {t : TA}
theorem pe_callG (F : FnG X.prog X.w X.K X.mg X.base CX k f fd ps sp) (rm : RoomG k X.A) (hg : Gl X x) (hm : X.mg x = some (.ref f)) (hk : PySem.W.keepIn X.K (.ref f) = true) (hb : Binds X.K fd ps []) (hx : Passes CX X E)
    (ha : PA X (e :: es) t) (hdb : (x == ("__debug__" : Str)) = false) (he : starEach (e :: es) X.env = (false, eval e X.env) :: starEach es X.env) (hpl : (backTo pos (starEach es X.env)).any (·.1) = false) : PE X (.Call (.Name x p) (e :: es) [] pos) (tCall sp [] E t) := by
  refine ⟨fun pins s σ H Q I h => wpAny_Call_Name_kw (ld_glob I hg hm ?_ hdb)⟩
  refine PySem.W.callWith_K (h₀ := X.base) I.ok.mod.kin hk (thn (ha.run pos pins s σ H _ I h) fun us s1 ⟨vs, H1, J, rel, q⟩ => ⟨J.kIn, ?_⟩) he hpl
  have rel2 : Vals (vs ++ []) (us ++ []) := rel.append .nil
  have ln : (us ++ ([] : List Value)).length = ps.length := rel2.length.symm.trans (F.ln _ _ _ _ q)
  refine wpAny_call (codeAny_mono (F.go X.A X.stack s1 H1 ⟨us, []⟩ (us ++ []) (vs ++ []) Q E rm J.env0 (hb s1 us J.kIn ln) rel2 q) fun r s' hq => ?_)
  match r, hq with
  | .error e, hq => exact hx pins σ H1 s1 e s' J hq
  | .ok (.ret u), hq => exact J.after hq
  | .ok .next, hq => exact hq.elim
  | .ok .brk, hq => exact hq.elim
  | .ok .cont, hq => exact hq.elim
end
end Dl

namespace Dl
open PySem PySem.Spec L2
open PyProof.Rows hiding St

/-! ### defs -/
abbrev Rl := List Sl → List OO → (Sl → List OO → Prop) → Prop
def spD (K : PySem.W.Frag) (n : Nat) (R : Rl) : Sp := fun vs H Q _ => vs.length = n ∧ ∃ (w : Wd) (xs : List Sl) (om : List OO) (Qd : Sl → List OO → Prop), w.H = H ∧ B K w.ct w [] ⟨[], om⟩ ∧ Paired (Vl K w) vs xs ∧ R xs om Qd ∧
  ∀ x om' v w', Qd x om' → B K w.ct w' [] ⟨[], om'⟩ → Vl K w' v x → Q v w'.H
def rlS (n : Nat) : Sl → Bool
  | .ob j => decide (j < n)
  | _ => true
def rlO (n : Nat) : OO → Bool
  | .gone => true
  | .lst xs => xs.all (rlS n)
  | .dk _ xs => xs.all (rlS n)
  | .dt _ xs => xs.all (rlS n)
inductive Ext (n : Nat) : Sl → List OO → Sl → List OO → Prop
  | sh (d : PyData) (ob : List OO) : (ob.take n).all (rlO n) = true → Ext n (.sh d) ob (.sh d) (ob.take n)
  | old (j : Nat) (ob : List OO) : j < n → (ob.take n).all (rlO n) = true → Ext n (.ob j) ob (.ob j) (ob.take n)
  | new (k : Nat) (xs : List Sl) (ob : List OO) : n ≤ k → ob[k]? = some (.lst xs) → (ob.take n).all (rlO n) = true → xs.all (rlS n) = true → Ext n (.ob k) ob (.ob n) (ob.take n ++ [.lst xs])
  | frz (k : Nat) (xs : List Sl) (ds : List PyData) (ob : List OO) : n ≤ k → ob[k]? = some (.lst xs) → (ob.take n).all (rlO n) = true → allSh xs = some ds → Ext n (.ob k) ob (.sh (.list ds)) (ob.take n)
def Fin (n : Nat) (Qd : Sl → List OO → Prop) : Out → Prop
  | .nx z => ∃ x' om', Ext n (.sh .none) z.ob x' om' ∧ Qd x' om'
  | .rt x z => ∃ x' om', Ext n x z.ob x' om' ∧ Qd x' om'
  | _ => False
section
variable {K : PySem.W.Frag} {c : Ct} {w : Wd} {σ : St} {z : Z}
theorem Vl.cut {n : Nat} {S H : Hp} {v : V} : ∀ {x : Sl}, rlS n x = true → Vl K w v x → S = w.S → Vl K ⟨w.rho.take n, S, H⟩ v x
  | .no, _, h, _ => h
  | .sh _, _, h, e => by
    subst e
    exact h
  | .ob j, r, ⟨p, h, e⟩, _ => ⟨p, by
    show (w.rho.take n)[j]? = some p
    rw [List.getElem?_take_of_lt (of_decide_eq_true r)]
    exact h, e⟩
  | .tp _, _, h, e => by
    subst e
    exact h
theorem Vls.cut {n : Nat} {S H : Hp} : ∀ {vs : List V} {xs : List Sl}, xs.all (rlS n) = true → Paired (Vl K w) vs xs → S = w.S → Paired (Vl K ⟨w.rho.take n, S, H⟩) vs xs
  | _, _, _, .nil, _ => .nil
  | _, _, h, .cons q t, e => by
    rw [List.all_cons, Bool.and_eq_true] at h
    exact .cons (Vl.cut h.1 q e) (Vls.cut h.2 t e)
theorem B.cut (b : B K c w σ z) {n : Nat} (hn : c.rho.length = n) (hr : (z.ob.take n).all (rlO n) = true) : B K c ⟨w.rho.take n, w.S, w.H⟩ [] ⟨[], z.ob.take n⟩ := by
  refine ⟨b.same, ?_, b.nd.sublist (List.take_sublist _ _), fun p hp => b.tr p (List.mem_of_mem_take hp), .nil, fun i o p h1 h2 => ?_, fun i p h => ?_, b.fr, b.nw, b.st, fun i p hi h => ?_⟩
  · show (w.rho.take n).length = (z.ob.take n).length
    rw [List.length_take, List.length_take, b.len]
  · have h1 : (z.ob.take n)[i]? = some o := h1
    have h2 : (w.rho.take n)[i]? = some p := h2
    have ho : rlO n o = true := List.all_eq_true.mp hr o (List.mem_of_getElem? h1)
    have hi : i < n := by
      have := (List.getElem?_eq_some_iff.mp h1).1
      rw [List.length_take] at this
      omega
    rw [List.getElem?_take_of_lt hi] at h1 h2
    have q := b.ob i o p h1 h2
    cases o with
    | gone => trivial
    | lst xs =>
      obtain ⟨hS, vs, hH, hv⟩ := q
      exact ⟨hS, vs, hH, Vls.cut ho hv rfl⟩
    | dk ks xs =>
      obtain ⟨hS, vs, hH, hv⟩ := q
      exact ⟨hS, vs, hH, Vls.cut ho hv rfl⟩
    | dt ks xs =>
      obtain ⟨hS, vs, hH, hv⟩ := q
      exact ⟨hS, vs, hH, Vls.cut ho hv rfl⟩
  · show (w.rho.take n)[i]? = some p
    have : i < c.rho.length := (List.getElem?_eq_some_iff.mp h).1
    rw [List.getElem?_take_of_lt (by omega)]
    exact b.pre i p h
  · have h : (w.rho.take n)[i]? = some p := h
    have := (List.getElem?_eq_some_iff.mp h).1
    rw [List.length_take] at this
    omega
theorem fin_ok {n : Nat} (hn : c.rho.length = n) {x x' : Sl} {om' : List OO} (h : Ext n x z.ob x' om') (b : B K c w σ z) {v : V} (r : Vl K w v x) {k : VK} (hk : ∀ w', B K c w' [] ⟨[], om'⟩ → Vl K w' v x' → k v w'.H) : k v w.H := by
  obtain ⟨sl, ob⟩ := z
  have h : Ext n x ob x' om' := h
  cases h with
  | sh d _ hr => exact hk ⟨w.rho.take n, w.S, w.H⟩ (b.cut hn hr) r
  | old j _ hj hr => exact hk ⟨w.rho.take n, w.S, w.H⟩ (b.cut hn hr) (Vl.cut (x := .ob j) (decide_eq_true hj) r rfl)
  | new j xs _ hj ho hr hx =>
    obtain ⟨p, hp, rfl⟩ := r
    obtain ⟨hS, vs, hH, hv⟩ := b.ob j _ p ho hp
    have as : Aside c ⟨w.rho.take n, w.S, w.H⟩ p := ⟨fun hq => by
      obtain ⟨i, hi⟩ := List.getElem?_of_mem hq
      have hi : (w.rho.take n)[i]? = some p := hi
      have hlt : i < n := by
        have := (List.getElem?_eq_some_iff.mp hi).1
        rw [List.length_take] at this
        omega
      rw [List.getElem?_take_of_lt hlt] at hi
      have := nodup_ixA b.nd hi hp
      omega, hS, b.nr j p (by omega) hp⟩
    refine hk ⟨w.rho.take n ++ [p], w.S, w.H⟩ ((b.cut hn hr).push as hH (Vls.cut hx hv rfl)) ⟨p, ?_, rfl⟩
    have hl : (w.rho.take n).length = n := by
      have h1 := b.len
      have h2 := (List.getElem?_eq_some_iff.mp hp).1
      rw [List.length_take]
      omega
    show (w.rho.take n ++ [p])[n]? = some p
    rw [List.getElem?_append_right (by omega), hl, Nat.sub_self]
    rfl
  | frz j xs ds _ hj ho hr hx =>
    obtain ⟨p, hp, rfl⟩ := r
    obtain ⟨hS, vs, hH, hv⟩ := b.ob j _ p ho hp
    have as : Aside c ⟨w.rho.take n, w.S, w.H⟩ p := ⟨fun hq => by
      obtain ⟨i, hi⟩ := List.getElem?_of_mem hq
      have hi : (w.rho.take n)[i]? = some p := hi
      have hlt : i < n := by
        have := (List.getElem?_eq_some_iff.mp hi).1
        rw [List.length_take] at this
        omega
      rw [List.getElem?_take_of_lt hlt] at hi
      have := nodup_ixA b.nd hi hp
      omega, hS, b.nr j p (by omega) hp⟩
    refine hk ⟨w.rho.take n, upd w.S p (.lst vs), w.H⟩ ((b.cut hn hr).stay as hH) ?_
    exact Dq.lst (.inl upd_same) (DpAll_mono (le_stay (w := w) hS).st (allSh_dp hx hv))
end
theorem paired_start {K : PySem.W.Frag} {w : Wd} {N : List Str} : ∀ {vs : List V} {xs : List Sl} (n : Nat), Paired (Vl K w) vs xs → Paired (Sv K w) (vs.map some ++ List.replicate n none) (xs ++ List.replicate n .no)
  | _, _, 0, .nil => .nil
  | _, _, n + 1, .nil => .cons (.inl rfl) (paired_start (N := N) n .nil)
  | _, _, n, .cons q t => .cons (.inr ⟨_, rfl, q⟩) (paired_start (N := N) n t)
section
variable {P : Program} {w : World} {K : PySem.W.Frag} {mg : Str → Option Value} {base : Heap}
theorem fn_ok {x qual : Str} {st : Stmt} {f : Addr} {fd : FuncData} {N ps : List Str} {k : Nat} {R : Rl} (F : Fun K x qual st f fd) (S : FnScope N ps (defScope st))
    (h : ∀ (cdv : Value) (A : Around) (outer : List Env) (s : Shared) (H : Hp) (E : XK), RoomG k (A.deeper (envOfC qual (defScope st) s.heap.objs.size f cdv)) → ∀ xs om Qd, xs.length = ps.length → R xs om Qd →
      WS (cxOf CX0 P w K mg base N qual (defScope st) f cdv A outer s H E).nox (defBody st) ⟨xs ++ List.replicate (N.length - xs.length) .no, om⟩ (Fin om.length Qd)) : FnG P w K mg base CX0 (k + 1) f fd ps (spD K ps.length R) := by
  obtain ⟨_, _, _, _, _, _, cdv, _, _, rfl, lk, hcd⟩ := F.ex
  refine fnG_of lk hcd S (fun vs H Q E h => h.1) (fun A outer s H vs Q E hr hsp => ?_)
  obtain ⟨hl, w0, xs, om, Qd, rfl, b0, hv, hR, hq⟩ := hsp
  have hxl : xs.length = ps.length := by rw [← hv.length]; exact hl
  refine ⟨_, PSs.nox pssB, h cdv A outer s w0.H E hr xs om Qd hxl hR w0.ct w0 _ _ ?_ ⟨?_, ?_, ?_, ?_⟩⟩
  · have hp : Paired (Sv K w0) (L2.start N vs) (xs ++ List.replicate (N.length - xs.length) .no) := by
      unfold L2.start
      rw [← hv.length]
      exact paired_start (N := N) _ hv
    exact ⟨b0.same, b0.len, b0.nd, b0.tr, hp, b0.ob, b0.pre, b0.fr, b0.nw, b0.st, b0.nr⟩
  · rintro w' σ' z' b' _ ⟨x', om', he, hQ⟩
    exact fin_ok (k := Q) b0.len he b' (v := .non) vN fun w2 b2 r2 => hq x' om' .non w2 hQ b2 r2
  · rintro v x w' σ' z' b' _ r ⟨x', om', he, hQ⟩
    exact fin_ok (k := Q) b0.len he b' r fun w2 b2 r2 => hq x' om' v w2 hQ b2 r2
  · intro w' σ' z' b' l q
    exact q.elim
  · intro w' σ' z' b' l q
    exact q.elim
end

/-! ### calls -/
def mpS (n : Nat) : Sl → Sl
  | .ob j => .ob (n + j)
  | x => x
def mpO (n : Nat) : OO → OO
  | .gone => .gone
  | .lst xs => .lst (xs.map (mpS n))
  | .dk ks xs => .dk ks (xs.map (mpS n))
  | .dt ks xs => .dt ks (xs.map (mpS n))
section
variable {K : PySem.W.Frag} {c : Ct} {w w' : Wd} {σ : St} {z : Z} {om' : List OO}
theorem Vl.mp {S H : Hp} {v : V} (hl : w.rho.length = z.ob.length) : ∀ {x : Sl}, Vl K w' v x → S = w'.S → Vl K ⟨w.rho ++ w'.rho, S, H⟩ v (mpS z.ob.length x)
  | .no, h, _ => h
  | .sh _, h, e => by
    subst e
    exact h
  | .ob j, ⟨p, h, e⟩, _ => ⟨p, by
    show (w.rho ++ w'.rho)[z.ob.length + j]? = some p
    rw [List.getElem?_append_right (by omega), hl, Nat.add_sub_cancel_left]
    exact h, e⟩
  | .tp _, h, e => by
    subst e
    exact h
theorem Vls.mp {S H : Hp} (hl : w.rho.length = z.ob.length) : ∀ {vs : List V} {xs : List Sl}, Paired (Vl K w') vs xs → S = w'.S → Paired (Vl K ⟨w.rho ++ w'.rho, S, H⟩) vs (xs.map (mpS z.ob.length))
  | _, _, .nil, _ => .nil
  | _, _, .cons q t, e => .cons (Vl.mp hl q e) (Vls.mp hl t e)
theorem B.back0 (b : B K c w σ z) (b' : B K ⟨w.S, w.H, []⟩ w' [] ⟨[], om'⟩) : B K c ⟨w.rho ++ w'.rho, w'.S, w'.H⟩ σ ⟨z.sl, z.ob ++ om'.map (mpO z.ob.length)⟩ ∧ w.Le ⟨w.rho ++ w'.rho, w'.S, w'.H⟩ := by
  have l : w.Le ⟨w.rho ++ w'.rho, w'.S, w'.H⟩ := ⟨b'.st, fun i q e => by
    show (w.rho ++ w'.rho)[i]? = some q
    rw [List.getElem?_append_left (List.getElem?_eq_some_iff.mp e).1]
    exact e⟩
  have hnew : ∀ p ∈ w'.rho, w.H p = none := fun p hp => by
    obtain ⟨i, hi⟩ := List.getElem?_of_mem hp
    exact b'.nr i p (Nat.zero_le _) hi
  have hfr : ∀ a o, w.H a = some o → w'.H a = some o := fun a o h => b'.fr a o h (by simp)
  have hkeep : ∀ p ∈ w.rho, w'.H p = w.H p := fun p hp => by
    cases e : w.H p with
    | none => exact absurd e (b.tr p hp)
    | some o => exact hfr p o e
  refine ⟨⟨b'.same, ?_, ?_, fun p hp => ?_, b.sl.mono fun _ _ q => q.mono l, fun i o p h1 h2 => ?_, fun i p h => l.rho i p (b.pre i p h), fun a o h hn => hfr a o (b.fr a o h hn), fun a o h => ?_, b.st.trans b'.st, fun i p hi h => ?_⟩, l⟩
  · show (w.rho ++ w'.rho).length = (z.ob ++ om'.map (mpO z.ob.length)).length
    have := b'.len
    rw [List.length_append, List.length_append, List.length_map, b.len, this]
  · refine List.nodup_append.mpr ⟨b.nd, b'.nd, fun a ha q hq e => ?_⟩
    subst e
    exact b.tr a ha (hnew a hq)
  · show w'.H p ≠ none
    rcases List.mem_append.mp hp with hp | hp
    · rw [hkeep p hp]
      exact b.tr p hp
    · exact b'.tr p hp
  · have h1 : (z.ob ++ om'.map (mpO z.ob.length))[i]? = some o := h1
    have h2 : (w.rho ++ w'.rho)[i]? = some p := h2
    by_cases hi : i < w.rho.length
    · rw [List.getElem?_append_left hi] at h2
      rw [List.getElem?_append_left (b.len ▸ hi)] at h1
      have hp := List.mem_of_getElem? h2
      refine (b.ob i o p h1 h2).mono l (fun e => ?_) (hkeep p hp)
      show w'.S p = none
      cases e2 : w'.S p with
      | none => rfl
      | some u =>
        rcases b'.nw p u e2 with q | q | q
        · exact absurd e q
        · exact absurd q (b.tr p hp)
        · cases q
    · rw [List.getElem?_append_right (by omega)] at h2
      rw [b.len] at hi h2
      rw [List.getElem?_append_right (by omega), List.getElem?_map] at h1
      obtain ⟨o', e1, e2⟩ := Option.map_eq_some_iff.mp h1
      subst e2
      have q := b'.ob _ o' p e1 h2
      cases o' with
      | gone => trivial
      | lst xs =>
        obtain ⟨hS, vs, hH, hv⟩ := q
        exact ⟨hS, vs, hH, Vls.mp b.len hv rfl⟩
      | dk ks xs =>
        obtain ⟨hS, vs, hH, hv⟩ := q
        exact ⟨hS, vs, hH, Vls.mp b.len hv rfl⟩
      | dt ks xs =>
        obtain ⟨hS, vs, hH, hv⟩ := q
        exact ⟨hS, vs, hH, Vls.mp b.len hv rfl⟩
  · have h : w'.S a = some o := h
    rcases b'.nw a o h with q | q | q
    · have q : w.S a ≠ none := q
      cases e : w.S a with
      | none => exact absurd e q
      | some u => exact b.nw a u e
    · exact .inr (.inl (b.fresh q))
    · cases q
  · have h : (w.rho ++ w'.rho)[i]? = some p := h
    by_cases hi2 : i < w.rho.length
    · rw [List.getElem?_append_left hi2] at h
      exact b.nr i p hi h
    · rw [List.getElem?_append_right (by omega)] at h
      exact b.fresh (hnew p (List.mem_of_getElem? h))
theorem B.ent0 (b : B K c w σ z) : B K ⟨w.S, w.H, []⟩ ⟨[], w.S, w.H⟩ [] ⟨[], []⟩ := ⟨b.same, rfl, by simp, by simp, .nil, fun i o p h => by simp at h, fun i p h => by simp at h, fun _ _ h _ => h, fun a o h => .inl (by
  show w.S a ≠ none
  have h : w.S a = some o := h
  rw [h]
  simp), Same.refl _, fun i p _ h => by simp at h⟩
/-- with one object of the store -/
def mp1 (i n : Nat) : Sl → Sl
  | .ob 0 => .ob i
  | .ob (j + 1) => .ob (n + j)
  | x => x
def mpO1 (i n : Nat) : OO → OO
  | .gone => .gone
  | .lst xs => .lst (xs.map (mp1 i n))
  | .dk ks xs => .dk ks (xs.map (mp1 i n))
  | .dt ks xs => .dt ks (xs.map (mp1 i n))
theorem B.ent1 (b : B K c w σ z) {i : Nat} {p : Addr} {xs : List Sl} {ds : List PyData} (hp : w.rho[i]? = some p) (ho : z.ob[i]? = some (.lst xs)) (hx : allSh xs = some ds) : B K ⟨w.S, w.H, [p]⟩ ⟨[p], w.S, w.H⟩ [] ⟨[], [.lst (ds.map .sh)]⟩ := by
  refine ⟨b.same, rfl, by simp, fun q hq => ?_, .nil, fun j o q h1 h2 => ?_, fun j q h => h, fun _ _ h _ => h, fun a o h => .inl (by
  show w.S a ≠ none
  have h : w.S a = some o := h
  rw [h]
  simp), Same.refl _, fun j q hj h => ?_⟩
  · rw [List.mem_singleton] at hq
    rw [hq]
    exact b.tr p (List.mem_of_getElem? hp)
  · have h2 : ([p] : List Addr)[j]? = some q := h2
    have h1 : ([OO.lst (ds.map Sl.sh)] : List OO)[j]? = some o := h1
    cases j with
    | zero =>
      cases h1
      cases h2
      obtain ⟨hS, vs, hH, hv⟩ := b.ob i _ p ho hp
      exact ⟨hS, vs, hH, dp_allSh (w := ⟨[p], w.S, w.H⟩) (allSh_dp (w := w) hx hv)⟩
    | succ j => simp at h1
  · have h : ([p] : List Addr)[j]? = some q := h
    have hj : 1 ≤ j := hj
    rw [List.getElem?_eq_none (by simpa using hj)] at h
    cases h
theorem Vl.mp1 {S H : Hp} {v : V} {i : Nat} {p : Addr} (hl : w.rho.length = z.ob.length) (hp : w.rho[i]? = some p) (h0 : w'.rho[0]? = some p) : ∀ {x : Sl}, Vl K w' v x → S = w'.S → Vl K ⟨w.rho ++ w'.rho.drop 1, S, H⟩ v (mp1 i z.ob.length x)
  | .no, h, _ => h
  | .sh _, h, e => by
    subst e
    exact h
  | .ob 0, ⟨q, h, e⟩, _ => ⟨q, by
    show (w.rho ++ w'.rho.drop 1)[i]? = some q
    rw [List.getElem?_append_left (List.getElem?_eq_some_iff.mp hp).1, ← h, h0]
    exact hp, e⟩
  | .ob (j + 1), ⟨q, h, e⟩, _ => ⟨q, by
    show (w.rho ++ w'.rho.drop 1)[z.ob.length + j]? = some q
    rw [List.getElem?_append_right (by omega), hl, Nat.add_sub_cancel_left, List.getElem?_drop, Nat.add_comm 1 j]
    exact h, e⟩
  | .tp _, h, e => by
    subst e
    exact h
theorem Vls.mp1 {S H : Hp} {i : Nat} {p : Addr} (hl : w.rho.length = z.ob.length) (hp : w.rho[i]? = some p) (h0 : w'.rho[0]? = some p) : ∀ {vs : List V} {xs : List Sl}, Paired (Vl K w') vs xs → S = w'.S → Paired (Vl K ⟨w.rho ++ w'.rho.drop 1, S, H⟩) vs (xs.map (mp1 i z.ob.length))
  | _, _, .nil, _ => .nil
  | _, _, .cons q t, e => .cons (Vl.mp1 hl hp h0 q e) (Vls.mp1 hl hp h0 t e)
theorem B.back1 (b : B K c w σ z) {i : Nat} {p : Addr} {o1 : OO} {more : List OO} (hp : w.rho[i]? = some p) (b' : B K ⟨w.S, w.H, [p]⟩ w' [] ⟨[], o1 :: more⟩) :
    B K c ⟨w.rho ++ w'.rho.drop 1, w'.S, w'.H⟩ σ ⟨z.sl, z.ob.set i (mpO1 i z.ob.length o1) ++ more.map (mpO1 i z.ob.length)⟩ ∧ w.Le ⟨w.rho ++ w'.rho.drop 1, w'.S, w'.H⟩ := by
  have l : w.Le ⟨w.rho ++ w'.rho.drop 1, w'.S, w'.H⟩ := ⟨b'.st, fun i q e => by
    show (w.rho ++ w'.rho.drop 1)[i]? = some q
    rw [List.getElem?_append_left (List.getElem?_eq_some_iff.mp e).1]
    exact e⟩
  have h0 : w'.rho[0]? = some p := b'.pre 0 p rfl
  have hnew : ∀ q ∈ w'.rho.drop 1, w.H q = none := fun q hq => by
    obtain ⟨j, hj⟩ := List.getElem?_of_mem hq
    rw [List.getElem?_drop] at hj
    exact b'.nr (1 + j) q (by show 1 ≤ 1 + j; omega) hj
  have hfr : ∀ a o, w.H a = some o → a ≠ p → w'.H a = some o := fun a o h hn => b'.fr a o h (by simpa using hn)
  have hkeep : ∀ q ∈ w.rho, q ≠ p → w'.H q = w.H q := fun q hq hn => by
    cases e : w.H q with
    | none => exact absurd e (b.tr q hq)
    | some o => exact hfr q o e hn
  have hlen : w'.rho.length = more.length + 1 := b'.len
  refine ⟨⟨b'.same, ?_, ?_, fun q hq => ?_, b.sl.mono fun _ _ q => q.mono l, fun j o q h1 h2 => ?_, fun j q h => l.rho j q (b.pre j q h), fun a o h hn => ?_, fun a o h => ?_, b.st.trans b'.st, fun j q hj h => ?_⟩, l⟩
  · show (w.rho ++ w'.rho.drop 1).length = (z.ob.set i (mpO1 i z.ob.length o1) ++ more.map (mpO1 i z.ob.length)).length
    rw [List.length_append, List.length_append, List.length_map, List.length_set, List.length_drop, b.len, hlen]
    omega
  · refine List.nodup_append.mpr ⟨b.nd, b'.nd.sublist (List.drop_sublist _ _), fun a ha q hq e => ?_⟩
    subst e
    exact b.tr a ha (hnew a hq)
  · show w'.H q ≠ none
    rcases List.mem_append.mp hq with hq | hq
    · by_cases hqp : q = p
      · subst hqp
        exact b'.tr q (List.mem_of_getElem? h0)
      · rw [hkeep q hq hqp]
        exact b.tr q hq
    · exact b'.tr q (List.mem_of_mem_drop hq)
  · have h1 : (z.ob.set i (mpO1 i z.ob.length o1) ++ more.map (mpO1 i z.ob.length))[j]? = some o := h1
    have h2 : (w.rho ++ w'.rho.drop 1)[j]? = some q := h2
    have fin : ∀ {o' : OO} {a : Addr}, Ob K w' a o' → Ob K ⟨w.rho ++ w'.rho.drop 1, w'.S, w'.H⟩ a (mpO1 i z.ob.length o') := fun {o' a} hq => by
      cases o' with
      | gone => trivial
      | lst xs =>
        obtain ⟨hS, vs, hH, hv⟩ := hq
        exact ⟨hS, vs, hH, Vls.mp1 b.len hp h0 hv rfl⟩
      | dk ks xs =>
        obtain ⟨hS, vs, hH, hv⟩ := hq
        exact ⟨hS, vs, hH, Vls.mp1 b.len hp h0 hv rfl⟩
      | dt ks xs =>
        obtain ⟨hS, vs, hH, hv⟩ := hq
        exact ⟨hS, vs, hH, Vls.mp1 b.len hp h0 hv rfl⟩
    by_cases hj : j < w.rho.length
    · rw [List.getElem?_append_left hj] at h2
      have hjz : j < z.ob.length := b.len ▸ hj
      rw [List.getElem?_append_left (by rw [List.length_set]; exact hjz)] at h1
      by_cases hij : i = j
      · subst hij
        rw [List.getElem?_set_self hjz] at h1
        cases h1
        rw [hp] at h2
        cases h2
        exact fin (b'.ob 0 o1 p rfl h0)
      · rw [List.getElem?_set_ne hij] at h1
        have hq := List.mem_of_getElem? h2
        have hqp : q ≠ p := fun e => hij (nodup_ixA b.nd hp (e ▸ h2))
        refine (b.ob j o q h1 h2).mono l (fun e => ?_) (hkeep q hq hqp)
        show w'.S q = none
        cases e2 : w'.S q with
        | none => rfl
        | some u =>
          rcases b'.nw q u e2 with r | r | r
          · exact absurd e r
          · exact absurd r (b.tr q hq)
          · exact absurd (List.mem_singleton.mp r) hqp
    · rw [List.getElem?_append_right (by omega), List.getElem?_drop] at h2
      rw [b.len] at hj h2
      rw [List.getElem?_append_right (by rw [List.length_set]; omega), List.length_set, List.getElem?_map] at h1
      obtain ⟨o', e1, e2⟩ := Option.map_eq_some_iff.mp h1
      subst e2
      refine fin (b'.ob (1 + (j - z.ob.length)) o' q ?_ h2)
      show (o1 :: more)[1 + (j - z.ob.length)]? = some o'
      rw [Nat.add_comm]
      exact e1
  · show w'.H a = some o
    have e := b.fr a o h hn
    refine hfr a o e fun hap => ?_
    subst hap
    by_cases hc : i < c.rho.length
    · have e5 : c.rho[i]? = some c.rho[i] := List.getElem?_eq_getElem hc
      have e6 := b.pre i _ e5
      rw [hp] at e6
      exact absurd (Option.some.inj e6 ▸ List.getElem_mem hc) hn
    · have e6 := b.nr i a (by omega) hp
      rw [h] at e6
      cases e6
  · have h : w'.S a = some o := h
    rcases b'.nw a o h with q | q | q
    · have q : w.S a ≠ none := q
      cases e : w.S a with
      | none => exact absurd e q
      | some u => exact b.nw a u e
    · exact .inr (.inl (b.fresh q))
    · refine .inr (b.inOr ?_)
      have q : a ∈ [p] := q
      rw [List.mem_singleton.mp q]
      exact List.mem_of_getElem? hp
  · have h : (w.rho ++ w'.rho.drop 1)[j]? = some q := h
    by_cases hi2 : j < w.rho.length
    · rw [List.getElem?_append_left hi2] at h
      exact b.nr j q hj h
    · rw [List.getElem?_append_right (by omega)] at h
      exact b.fresh (hnew q (List.mem_of_getElem? h))
end
end Dl

namespace Dl
open PySem PySem.Spec L2
open PyProof.Rows hiding St

/-! ### promises of the usual forms -/
/-- data in, data out -/
def PureR (F : List PyData → PyData → Prop) : Rl := fun xs om Q => ∃ ds d, xs = ds.map .sh ∧ om = [] ∧ F ds d ∧ Q (.sh d) []
/-- data in, a new list out -/
def NewR (F : List PyData → List PyData → Prop) : Rl := fun xs om Q => ∃ ds r, xs = ds.map .sh ∧ om = [] ∧ F ds r ∧ Q (.ob 0) [.lst (r.map .sh)]
/-- a box first, data behind it; data out, the box changed -/
def BoxR (F : List PyData → List PyData → PyData → List PyData → Prop) : Rl := fun xs om Q => ∃ b ds d b', xs = .ob 0 :: ds.map .sh ∧ om = [.lst (b.map .sh)] ∧ F b ds d b' ∧ Q (.sh d) [.lst (b'.map .sh)]
section
variable {X : Cx} {x : Str} {p pos : Pos} {e : Expr} {es : List Expr} {z : Z} {Q : Sl → Z → Prop} {k : Nat} {f : Addr} {fd : FuncData} {ps : List Str}
theorem mp_map (ds : List PyData) (n : Nat) : (ds.map Sl.sh).map (mpS n) = ds.map Sl.sh := by
  rw [List.map_map]
  exact List.map_congr_left fun d _ => rfl
theorem mp1_map (ds : List PyData) (i n : Nat) : (ds.map Sl.sh).map (mp1 i n) = ds.map Sl.sh := by
  rw [List.map_map]
  exact List.map_congr_left fun d _ => rfl
theorem allSh_eq : ∀ {xs : List Sl} {ds : List PyData}, allSh xs = some ds → xs = ds.map .sh
  | [], _, e => by
    cases e
    rfl
  | .sh d :: r, _, e => by
    obtain ⟨ds, e1, rfl⟩ := allSh_inv e
    rw [allSh_eq e1]
    rfl
/-- what a call by values does -/
theorem call_pure {F : List PyData → PyData → Prop} {c : Ct} {w : Wd} {σ : St} {kk : VK} {vs : List V} {xs : List Sl} {ds : List PyData} {d : PyData} {E : XK} (n : Nat) (b : B X.K c w σ z) (hv : Paired (Vl X.K w) vs xs) (hn : xs.length = n) (hx : allSh xs = some ds) (hF : F ds d) (hQ : Q (.sh d) z) (hk : Cont X.K c w σ Q kk) :
    spD X.K n (PureR F) (vs ++ []) w.H kk E := by
  rw [List.append_nil]
  refine ⟨by rw [hv.length]; exact hn, ⟨[], w.S, w.H⟩, xs, [], fun y om => y = .sh d ∧ om = [], rfl, b.ent0, ?_, ⟨ds, d, allSh_eq hx, rfl, hF, rfl, rfl⟩, fun y om' v w' hq b' r => ?_⟩
  · rw [allSh_eq hx]
    exact dp_allSh (w := ⟨[], w.S, w.H⟩) (allSh_dp (w := w) hx hv)
  · obtain ⟨rfl, rfl⟩ := hq
    obtain ⟨b2, l⟩ := b.back0 b'
    refine hk v (.sh d) ⟨w.rho ++ w'.rho, w'.S, w'.H⟩ z ?_ l r hQ
    have : (⟨z.sl, z.ob ++ ([] : List OO).map (mpO z.ob.length)⟩ : Z) = z := by
      cases z
      simp
    rw [this] at b2
    exact b2
theorem call_new {F : List PyData → List PyData → Prop} {c : Ct} {w : Wd} {σ : St} {kk : VK} {vs : List V} {xs : List Sl} {ds r : List PyData} {E : XK} (n : Nat) (b : B X.K c w σ z) (hv : Paired (Vl X.K w) vs xs) (hn : xs.length = n) (hx : allSh xs = some ds) (hF : F ds r)
    (hQ : Q (.ob z.ob.length) ⟨z.sl, z.ob ++ [.lst (r.map .sh)]⟩) (hk : Cont X.K c w σ Q kk) : spD X.K n (NewR F) (vs ++ []) w.H kk E := by
  rw [List.append_nil]
  refine ⟨by rw [hv.length]; exact hn, ⟨[], w.S, w.H⟩, xs, [], fun y om => y = .ob 0 ∧ om = [.lst (r.map .sh)], rfl, b.ent0, ?_, ⟨ds, r, allSh_eq hx, rfl, hF, rfl, rfl⟩, fun y om' v w' hq b' rv => ?_⟩
  · rw [allSh_eq hx]
    exact dp_allSh (w := ⟨[], w.S, w.H⟩) (allSh_dp (w := w) hx hv)
  · obtain ⟨rfl, rfl⟩ := hq
    obtain ⟨b2, l⟩ := b.back0 b'
    refine hk v (.ob z.ob.length) ⟨w.rho ++ w'.rho, w'.S, w'.H⟩ _ ?_ l (Vl.mp (z := z) (x := .ob 0) b.len rv rfl) hQ
    have : ([OO.lst (r.map .sh)] : List OO).map (mpO z.ob.length) = [.lst (r.map .sh)] := by
      show [OO.lst ((r.map Sl.sh).map (mpS z.ob.length))] = _
      rw [mp_map]
    rw [this] at b2
    exact b2
theorem call_box {F : List PyData → List PyData → PyData → List PyData → Prop} {c : Ct} {w : Wd} {σ : St} {kk : VK} {vs : List V} {xs ys : List Sl} {i : Nat} {bx bx' ds : List PyData} {d : PyData} {E : XK} (n : Nat) (b : B X.K c w σ z) (hv : Paired (Vl X.K w) vs (.ob i :: xs)) (hn : xs.length + 1 = n) (hx : allSh xs = some ds)
    (ho : z.ob[i]? = some (.lst ys)) (hy : allSh ys = some bx) (hF : F bx ds d bx') (hQ : Q (.sh d) ⟨z.sl, z.ob.set i (.lst (bx'.map .sh))⟩) (hk : Cont X.K c w σ Q kk) : spD X.K n (BoxR F) (vs ++ []) w.H kk E := by
  rw [List.append_nil]
  cases hv with
  | cons h1 ht =>
    obtain ⟨p, hp, rfl⟩ := h1
    refine ⟨by rw [List.length_cons, ht.length]; exact hn, ⟨[p], w.S, w.H⟩, .ob 0 :: xs, [.lst (bx.map .sh)], fun y om => y = .sh d ∧ om = [.lst (bx'.map .sh)], rfl, b.ent1 hp ho hy, .cons ⟨p, rfl, rfl⟩ ?_, ⟨bx, ds, d, bx', by rw [allSh_eq hx], rfl, hF, rfl, rfl⟩, fun y om' v w' hq b' r => ?_⟩
    · rw [allSh_eq hx]
      exact dp_allSh (w := ⟨[p], w.S, w.H⟩) (allSh_dp (w := w) hx ht)
    · obtain ⟨rfl, rfl⟩ := hq
      obtain ⟨b2, l⟩ := b.back1 hp b'
      refine hk v (.sh d) ⟨w.rho ++ w'.rho.drop 1, w'.S, w'.H⟩ _ ?_ l r hQ
      have : z.ob.set i (mpO1 i z.ob.length (.lst (bx'.map .sh))) ++ ([] : List OO).map (mpO1 i z.ob.length) = z.ob.set i (.lst (bx'.map .sh)) := by
        show z.ob.set i (.lst ((bx'.map Sl.sh).map (mp1 i z.ob.length))) ++ [] = _
        rw [mp1_map, List.append_nil]
      rw [this] at b2
      exact b2
end
/-- a def as callers know it -/
structure Df (P : Program) (w : World) (K : PySem.W.Frag) (mg : Str → Option Value) (base : Heap) (x : Str) (k : Nat) (ps : List Str) (R : Rl) : Prop where
  ex : ∃ (f : Addr) (fd : FuncData), FnG P w K mg base CX0 k f fd ps (spD K ps.length R) ∧ mg x = some (.ref f) ∧ PySem.W.keepIn K (.ref f) = true ∧ Binds K fd ps []
theorem pass0x {X : Cx} : Passes CX0 X E0 := fun _ _ _ _ _ _ _ h => h.elim
section
variable {X : Cx} {x : Str} {p pos : Pos} {e : Expr} {es : List Expr} {z : Z} {Q : Sl → Z → Prop} {k kk : Nat} {ps : List Str}
theorem we_callP {F : List PyData → PyData → Prop} (G : Df X.prog X.w X.K X.mg X.base x k ps (PureR F)) (hr : RoomG kk X.A) (hle : k ≤ kk)
    (h : WA X (e :: es) z fun xs z1 => ∃ ds d, allSh xs = some ds ∧ F ds d ∧ xs.length = ps.length ∧ Q (.sh d) z1) (hg : Gl X x := by rfl) (hd : (x == ("__debug__" : Str)) = false := by decide) (he : starEach (e :: es) X.env = (false, eval e X.env) :: starEach es X.env := by rfl)
    (hpl : (backTo pos (starEach es X.env)).any (·.1) = false := by rfl) : WE X (.Call (.Name x p) (e :: es) [] pos) z Q := by
  obtain ⟨f, fd, G, hm, hk, hb⟩ := G.ex
  exact fun c w σ kk bb hkk => tE_of (pe_callG G (hr.mono hle) hg hm hk hb pass0x paB hd he hpl) (h c w σ _ bb fun vs xs w1 z1 b1 l1 hv ⟨ds, d, hx, hF, hn, hQ⟩ => call_pure ps.length b1 hv hn hx hF hQ (hkk.le l1))
theorem we_callN {F : List PyData → List PyData → Prop} (G : Df X.prog X.w X.K X.mg X.base x k ps (NewR F)) (hr : RoomG kk X.A) (hle : k ≤ kk)
    (h : WA X (e :: es) z fun xs z1 => ∃ ds d, allSh xs = some ds ∧ F ds d ∧ xs.length = ps.length ∧ Q (.ob z1.ob.length) ⟨z1.sl, z1.ob ++ [.lst (d.map .sh)]⟩) (hg : Gl X x := by rfl) (hd : (x == ("__debug__" : Str)) = false := by decide) (he : starEach (e :: es) X.env = (false, eval e X.env) :: starEach es X.env := by rfl)
    (hpl : (backTo pos (starEach es X.env)).any (·.1) = false := by rfl) : WE X (.Call (.Name x p) (e :: es) [] pos) z Q := by
  obtain ⟨f, fd, G, hm, hk, hb⟩ := G.ex
  exact fun c w σ kk bb hkk => tE_of (pe_callG G (hr.mono hle) hg hm hk hb pass0x paB hd he hpl) (h c w σ _ bb fun vs xs w1 z1 b1 l1 hv ⟨ds, d, hx, hF, hn, hQ⟩ => call_new ps.length b1 hv hn hx hF hQ (hkk.le l1))
theorem we_callX0 {F : List PyData → List PyData → PyData → List PyData → Prop} (G : Df X.prog X.w X.K X.mg X.base x k ps (BoxR F)) (hr : RoomG kk X.A) (hle : k ≤ kk)
    (h : WA X (e :: es) z fun xs z1 => ∃ i ys zs bx ds d bx', xs = .ob i :: ys ∧ allSh ys = some ds ∧ z1.ob[i]? = some (.lst zs) ∧ allSh zs = some bx ∧ F bx ds d bx' ∧ xs.length = ps.length ∧ Q (.sh d) ⟨z1.sl, z1.ob.set i (.lst (bx'.map .sh))⟩)
    (hg : Gl X x := by rfl) (hd : (x == ("__debug__" : Str)) = false := by decide) (he : starEach (e :: es) X.env = (false, eval e X.env) :: starEach es X.env := by rfl)
    (hpl : (backTo pos (starEach es X.env)).any (·.1) = false := by rfl) : WE X (.Call (.Name x p) (e :: es) [] pos) z Q := by
  obtain ⟨f, fd, G, hm, hk, hb⟩ := G.ex
  exact fun c w σ kk bb hkk => tE_of (pe_callG G (hr.mono hle) hg hm hk hb pass0x paB hd he hpl) (h c w σ _ bb fun vs xs w1 z1 b1 l1 hv ⟨i, ys, zs, bx, ds, d, bx', e1, hx, ho, hy, hF, hn, hQ⟩ => by
    subst e1
    exact call_box (ys := zs) ps.length b1 hv hn hx ho hy hF hQ (hkk.le l1))
end
section
variable {P : Program} {w : World} {K : PySem.W.Frag} {mg : Str → Option Value} {base : Heap} {x : Str} {k k' : Nat} {ps : List Str} {R R' : Rl}
theorem Df.mono (D : Df P w K mg base x k ps R) (h : k ≤ k') : Df P w K mg base x k' ps R := by
  obtain ⟨f, fd, G, r⟩ := D.ex
  exact ⟨f, fd, G.mono h, r⟩
theorem Df.imp (D : Df P w K mg base x k ps R) (h : ∀ xs om Q, R' xs om Q → ∃ Q', R xs om Q' ∧ ∀ y om', Q' y om' → Q y om') : Df P w K mg base x k ps R' := by
  obtain ⟨f, fd, G, r⟩ := D.ex
  refine ⟨f, fd, G.imp fun vs H Q E ⟨hl, w0, xs, om, Qd, hH, b, hv, hR, hq⟩ => ?_, r⟩
  obtain ⟨Q', hR', hi⟩ := h xs om Qd hR
  exact ⟨hl, w0, xs, om, Q', hH, b, hv, hR', fun x om' v w' h1 => hq x om' v w' (hi x om' h1)⟩
/-- a new list that stays -/
theorem Df.frz {F : List PyData → List PyData → Prop} (D : Df P w K mg base x k ps (NewR F)) : Df P w K mg base x k ps (PureR fun ds d => ∃ r, F ds r ∧ d = .list r) := by
  obtain ⟨f, fd, G, hm⟩ := D.ex
  refine ⟨f, fd, G.imp fun vs H Q E ⟨hl, w0, xs, om, Qd, hH, b, hv, hR, hq⟩ => ?_, hm⟩
  obtain ⟨ds, d, e1, e2, ⟨r, hF, e3⟩, hQ⟩ := hR
  subst e1 e2 e3
  refine ⟨hl, w0, _, [], fun y om' => y = .ob 0 ∧ om' = [.lst (r.map .sh)], hH, b, hv, ⟨ds, r, rfl, rfl, hF, rfl, rfl⟩, ?_⟩
  rintro y om' v w' ⟨rfl, rfl⟩ b' ⟨p, hp, rfl⟩
  have hlen : w0.rho.length = 0 := b.len
  refine fin_ok (n := 0) (k := Q) hlen (Ext.frz 0 (r.map .sh) r [.lst (r.map .sh)] (Nat.le_refl _) rfl rfl (allSh_map r)) b' (x := .ob 0) ⟨p, hp, rfl⟩ fun w2 b2 r2 => hq _ _ _ w2 hQ b2 r2
theorem df_mk {qual : Str} {st : Stmt} {f : Addr} {fd : FuncData} (G : FnG P w K mg base CX0 k f fd ps (spD K ps.length R)) (hm : mg x = some (.ref f)) (hk : PySem.W.keepIn K (.ref f) = true) (hb : Binds K fd ps []) : Df P w K mg base x k ps R := ⟨f, fd, G, hm, hk, hb⟩
end

/-! ### list comprehensions -/
def wipeZ (sl : List Sl) : List Nat → List Sl
  | [] => sl
  | v :: vs => (wipeZ sl vs).set v .no
theorem B.wipe {K : PySem.W.Frag} {c : Ct} {w : Wd} {σ : St} {z : Z} (b : B K c w σ z) (vs : List Nat) : B K c w (L2.wipe σ vs) ⟨wipeZ z.sl vs, z.ob⟩ := by
  refine ⟨b.same, b.len, b.nd, b.tr, ?_, b.ob, b.pre, b.fr, b.nw, b.st, b.nr⟩
  show Paired (Sv K w) (L2.wipe σ vs) (wipeZ z.sl vs)
  induction vs with
  | nil => exact b.sl
  | cons v vs ih => exact paired_set (.inl rfl) v ih
/-- the slots as they were, the store as it is -/
theorem B.slots {K : PySem.W.Frag} {c c' : Ct} {w w' : Wd} {σ σ' : St} {z z' : Z} (b : B K c w σ z) (b' : B K c' w' σ' z') (l : w.Le w') : B K c' w' σ ⟨z.sl, z'.ob⟩ :=
  ⟨b'.same, b'.len, b'.nd, b'.tr, b.sl.mono fun _ _ q => q.mono l, b'.ob, b'.pre, b'.fr, b'.nw, b'.st, b'.nr⟩
theorem wipe_wipe (σ : St) : ∀ vs : List Nat, L2.wipe (L2.wipe σ vs) vs = L2.wipe σ vs := fun vs => by
  have e : ∀ (us : List Nat) (τ : St), (∀ u ∈ us, u ∈ vs) → (∀ u ∈ us, τ.set u none = τ) → L2.wipe τ us = τ := fun us => by
    induction us with
    | nil => exact fun τ _ _ => rfl
    | cons u us ih =>
      intro τ h1 h2
      show (L2.wipe τ us).set u none = τ
      rw [ih τ (fun v hv => h1 v (List.mem_cons_of_mem _ hv)) (fun v hv => h2 v (List.mem_cons_of_mem _ hv))]
      exact h2 u List.mem_cons_self
  refine e vs _ (fun u h => h) fun u hu => ?_
  have f : ∀ (us : List Nat) (τ : St), u ∈ us → (L2.wipe τ us).set u none = L2.wipe τ us := fun us => by
    induction us with
    | nil => exact fun τ h => absurd h (by simp)
    | cons v us ih =>
      intro τ h
      show ((L2.wipe τ us).set v none).set u none = (L2.wipe τ us).set v none
      by_cases huv : u = v
      · subst huv
        rw [List.set_set]
      · rcases List.mem_cons.mp h with h | h
        · exact absurd h huv
        · rw [List.set_comm _ _ (Ne.symm huv), ih τ h]
  exact f vs σ hu
def WTs (X : Cx) (ifs : List Expr) (z : Z) (Q : Bool → Z → Prop) : Prop := match ifs with
  | [] => Q true z
  | [c] => WT X c z Q
  | _ => False
def tTs (X : Cx) (ifs : List Expr) : TT := match ifs with
  | [] => tYes
  | [c] => tT X c
  | _ => fun _ _ _ => False
theorem ptsB {X : Cx} : ∀ {ifs : List Expr}, PTs X ifs (tTs X ifs)
  | [] => pts_nil
  | [c] => pts_one ptB
  | _ :: _ :: _ => ⟨fun _ _ _ _ _ _ h => h.elim⟩
theorem wts_ok {X : Cx} {z : Z} {Q : Bool → Z → Prop} : ∀ {ifs : List Expr}, WTs X ifs z Q → ∀ c w σ (k : Bool → Hp → Prop), B X.K c w σ z → (∀ b w' z', B X.K c w' σ z' → w.Le w' → Q b z' → k b w'.H) → tTs X ifs σ w.H k
  | [], h, c, w, σ, k, b, hk => hk true w z b (.refl w) h
  | [_], h, c, w, σ, k, b, hk => h c w σ k b hk
section
variable {X : Cx} {tg iter elt : Expr} {ifs : List Expr} {scope : Scope} {z : Z} {pos : Pos}
/-- a comprehension's inner context -/
abbrev Blk (X : Cx) (scope : Scope) (s : Shared) (H : Hp) (C : Addr) (cl : List (Str × Addr)) (fp : List Addr) : Cx := X.blk s H scope (compEnvC scope cl C X.env) fp
/-- what a comprehension asks: I by the turn, what is made so far, the state -/
def LcD (X : Cx) (tg elt : Expr) (ifs : List Expr) (scope : Scope) (vs : List Nat) (g : TG) (Q : List Sl → Z → Prop) : List Sl → (Z → Prop) → Z → Prop := fun ys G z1 => ys.length ≤ 100000 ∧ ∃ I : Nat → List Sl → List OO → Prop, I 0 [] z1.ob ∧
  (∀ i acc om, I i acc om → G ⟨wipeZ z1.sl vs, om⟩) ∧
  (∀ i y acc om, ys[i]? = some y → I i acc om → acc.length ≤ i → GD X.K vs g y ⟨wipeZ z1.sl vs, om⟩ fun z2 => ∀ s H C cl fp, WTs (Blk X scope s H C cl fp) ifs z2 fun b z3 =>
    (b = true → ∀ s H C cl fp, WE (Blk X scope s H C cl fp) elt z3 fun x z4 => I (i + 1) (acc ++ [x]) z4.ob) ∧ (b = false → I (i + 1) acc z3.ob)) ∧
  ∀ acc om, I ys.length acc om → acc.length ≤ ys.length → Q acc ⟨z1.sl, om⟩
theorem lc_ok {own : List (Str × Nat)} {g : TG} {Q : List Sl → Z → Prop} {c : Ct} {w : Wd} {σ : St} {k : VK} (bb : B X.K c w σ z)
    (h : WI X tg iter z (LcD X tg elt ifs scope (own.map (·.2)) g Q))
    (hk : ∀ D vs acc w1 z1, B X.K c w1 σ z1 → w.Le w1 → Aside c w1 D → w1.H D = some (.lst vs) → Paired (Vl X.K w1) vs acc → Q acc z1 → k (.ref D) w1.H) :
    tLc (tI X tg iter) g (fun σ H Q => ∀ s H0 C cl fp, tTs (Blk X scope s H0 C cl fp) ifs σ H Q) (fun σ H Q => ∀ s H0 C cl fp, tE (Blk X scope s H0 C cl fp) elt σ H Q) (own.map (·.2)) σ w.H k := by
  refine h c w σ _ bb fun J ys G w1 z1 b1 l1 dw ⟨hyl, I, h0, hG, hs, hd⟩ D hD => ?_
  have as1 : Aside c w1 D := b1.asideNew hD
  refine ⟨fun i m H' => m = ys.length - i ∧ i ≤ ys.length ∧ ∃ w' om vs acc, B X.K c w' σ ⟨z1.sl, om⟩ ∧ w1.Le w' ∧ w'.H = H' ∧ Aside c w' D ∧ w'.H D = some (.lst vs) ∧ Paired (Vl X.K w') vs acc ∧ acc.length ≤ i ∧ I i acc om,
    ⟨ys.length, by simp, Nat.zero_le _, ⟨w1.rho, w1.S, upd w1.H D (.lst [])⟩, z1.ob, [], [], b1.aside as1, le_aside, rfl, ⟨as1.nr, as1.nS, as1.nc⟩, upd_same, .nil, Nat.zero_le _, h0⟩, ?_⟩
  rintro i m H2 ⟨rfl, hi, w2, om, vs, acc, b2, l2, rfl, as2, hD2, hp2, ha, hI⟩
  have bw := b2.wipe (own.map (·.2))
  by_cases hlt : i < ys.length
  · refine .inr ⟨dw.goes i c w2 _ _ hlt bw l2 (hG i acc om hI), fun H' => ∃ w' om vs acc, B X.K c w' σ ⟨z1.sl, om⟩ ∧ w1.Le w' ∧ w'.H = H' ∧ Aside c w' D ∧ w'.H D = some (.lst vs) ∧ Paired (Vl X.K w') vs acc ∧ acc.length ≤ i + 1 ∧ I (i + 1) acc om,
      fun H' q => ⟨ys.length - (i + 1), by omega, rfl, hlt, q⟩, fun x H' y => ?_⟩
    have hy : ys[i]? = some ys[i] := List.getElem?_eq_getElem hlt
    have bs := bw.self
    obtain ⟨w3, rfl, b3, l3, r3⟩ := dw.yields i w2.ct w2 _ _ x H' ys[i] hy bs l2 (hG i acc om hI) y
    have b23 : w2.Le w3 := l3
    refine hs i ys[i] acc om hy hI ha w2.ct w3 _ x _ b3 r3 fun w4 σ4 z4 b4 l4 hwp hw => ⟨hwp.trans (wipe_wipe σ _), fun s0 H0 C cl fp => ?_⟩
    refine wts_ok (hw s0 H0 C cl fp) w2.ct w4 σ4 _ b4 fun d w5 z5 b5 l5 hq => ?_
    have l25 : w2.Le w5 := (l3.trans l4).trans l5
    cases d with
    | true =>
      show ∀ s H0 C cl fp, tE (Blk X scope s H0 C cl fp) elt σ4 w5.H _
      intro s1 H1 C1 cl1 fp1
      refine hq.1 rfl s1 H1 C1 cl1 fp1 w2.ct w5 σ4 _ b5 fun v x6 w6 z6 b6 l6 r6 hI6 => ?_
      have l26 := l25.trans l6
      obtain ⟨as6, hD6⟩ := as2.on b2 hD2 b6
      refine ⟨vs, hD6, ?_, ⟨w6.rho, w6.S, upd w6.H D (.lst (vs ++ [v]))⟩, z6.ob, vs ++ [v], acc ++ [x6], ?_, ?_, rfl, ⟨as6.nr, as6.nS, as6.nc⟩, upd_same, ?_, ?_, hI6⟩
      · rw [hp2.length]
        exact Nat.lt_of_le_of_lt (Nat.le_trans ha (Nat.le_trans hi hyl)) (by decide)
      · have b7 : B X.K c w6 σ ⟨z1.sl, z6.ob⟩ := b2.slots (b2.comp b6) l26
        exact b7.aside as6
      · exact (l2.trans l26).trans le_aside
      · exact (hp2.mono fun _ _ q => q.mono (l26.trans le_aside)).snoc (r6.mono le_aside)
      · rw [List.length_append]
        simp
        omega
    | false =>
      show ∃ w' om vs acc, _
      obtain ⟨as5, hD5⟩ := as2.on b2 hD2 b5
      exact ⟨w5, z5.ob, vs, acc, b2.slots (b2.comp b5) l25, l2.trans l25, rfl, as5, hD5, hp2.mono fun _ _ q => q.mono l25, by omega, hq.2 rfl⟩
  · have e : i = ys.length := by omega
    subst e
    exact .inl ⟨dw.stops c w2 _ _ bw l2 (hG _ acc om hI), hk D vs acc w2 _ b2 (l1.trans l2) as2 hD2 hp2 (hd acc om hI ha)⟩
end
end Dl

namespace Dl
open PySem PySem.Spec L2
open PyProof.Rows hiding St

/-! ### comprehensions as expressions and in assignments -/
/-- what is made stays -/
def FrzK (Q : Sl → Z → Prop) : List Sl → Z → Prop := fun acc z1 => ∃ ds, allSh acc = some ds ∧ Q (.sh (.list ds)) z1
section
variable {X : Cx} {tg iter elt : Expr} {ifs : List Expr} {scope : Scope} {z : Z} {pos spos py : Pos} {own : List (Str × Nat)} {g : TG} {Q : Sl → Z → Prop}
theorem we_lcF (hN : X.N.Nodup) (ok : BlkOk X.N X.env.scope scope own) (hg : ∀ s H C cl fp, PG (Blk X scope s H C cl fp) tg g)
    (h : WI X tg iter z (LcD X tg elt ifs scope (own.map (·.2)) g (FrzK Q))) (hc : X.calm = true := by rfl) (hs : ∀ x, foldedSetIterable iter X.env x = pure x := by intro _; rfl) :
    WE X (.ListComp elt [⟨tg, iter, ifs, 0⟩] scope pos) z Q := fun c w σ k bb hk =>
  tE_of (pe_lc hc hN piB ok hg (fun s H C cl fp => ⟨fun pins s1 σ H1 Q I h => ptsB.run pins s1 σ H1 Q I (h s H C cl fp)⟩) (fun s H C cl fp => ⟨fun pins s1 σ H1 Q I h => h s H C cl fp pins s1 I⟩) hs)
    (lc_ok bb h fun D vs acc w1 z1 b1 l1 as hD hp ⟨ds, ha, hq⟩ => hk (.ref D) (.sh (.list ds)) ⟨w1.rho, upd w1.S D (.lst vs), w1.H⟩ z1 (b1.stay as hD) (l1.trans (le_stay as.nS)) (Dq.lst (.inl upd_same) (DpAll_mono (le_stay (w := w1) as.nS).st (allSh_dp ha hp))) hq)
theorem we_lc (hN : X.N.Nodup) (ok : BlkOk X.N X.env.scope scope own) (hg : ∀ s H C cl fp, PG (Blk X scope s H C cl fp) tg g)
    (h : WI X tg iter z (LcD X tg elt ifs scope (own.map (·.2)) g fun acc z1 => Q (.ob z1.ob.length) ⟨z1.sl, z1.ob ++ [.lst acc]⟩)) (hc : X.calm = true := by rfl) (hs : ∀ x, foldedSetIterable iter X.env x = pure x := by intro _; rfl) :
    WE X (.ListComp elt [⟨tg, iter, ifs, 0⟩] scope pos) z Q := fun c w σ k bb hk =>
  tE_of (pe_lc hc hN piB ok hg (fun s H C cl fp => ⟨fun pins s1 σ H1 Q I h => ptsB.run pins s1 σ H1 Q I (h s H C cl fp)⟩) (fun s H C cl fp => ⟨fun pins s1 σ H1 Q I h => h s H C cl fp pins s1 I⟩) hs)
    (lc_ok bb h fun D vs acc w1 z1 b1 l1 as hD hp hq => hk (.ref D) (.ob z1.ob.length) ⟨w1.rho ++ [D], w1.S, w1.H⟩ _ (b1.push as hD hp) (l1.trans le_push) ⟨D, by
      show (w1.rho ++ [D])[z1.ob.length]? = some D
      rw [← b1.len, List.getElem?_append_right (Nat.le_refl _), Nat.sub_self]
      rfl, rfl⟩ hq)
theorem w1_setLcF {P : Out → Prop} {i : Nat} {y : Str} (hN : X.N.Nodup) (hy : X.N[i]? = some y) (ok : BlkOk X.N X.env.scope scope own) (hg : ∀ s H C cl fp, PG (Blk X scope s H C cl fp) tg g)
    (h : WI X tg iter z (LcD X tg elt ifs scope (own.map (·.2)) g (FrzK fun y z1 => P (.nx ⟨z1.sl.set i y, z1.ob⟩))))
    (hsw : swapsWith (.ListComp elt [⟨tg, iter, ifs, 0⟩] scope pos) (some (.Name y py)) spos.line X.env = pure true) (hyl : X.env.scope.names.lookup y = some .local := by rfl) (hc : X.calm = true := by rfl) (hs : ∀ x, foldedSetIterable iter X.env x = pure x := by intro _; rfl) :
    W1 X (.Assign [.Name y py] (.ListComp elt [⟨tg, iter, ifs, 0⟩] scope pos) spos) z P := fun c w σ D bb hk =>
  tS_of (ps_setLc hc hN hy hyl hsw piB ok hg (fun s H C cl fp => ⟨fun pins s1 σ H1 Q I h => ptsB.run pins s1 σ H1 Q I (h s H C cl fp)⟩) (fun s H C cl fp => ⟨fun pins s1 σ H1 Q I h => h s H C cl fp pins s1 I⟩) hs)
    (lc_ok bb h fun A vs acc w1 z1 b1 l1 as hD hp ⟨ds, ha, hq⟩ => by
      have b2 : B X.K c ⟨w1.rho, upd w1.S A (.lst vs), w1.H⟩ σ z1 := b1.stay as hD
      have r2 : Vl X.K ⟨w1.rho, upd w1.S A (.lst vs), w1.H⟩ (.ref A) (.sh (.list ds)) := Dq.lst (.inl upd_same) (DpAll_mono (le_stay (w := w1) as.nS).st (allSh_dp ha hp))
      exact hk.nx ⟨w1.rho, upd w1.S A (.lst vs), w1.H⟩ _ _ (b2.setSl (i := i) r2) (l1.trans (le_stay as.nS)) hq)
end

/-! ### operators over data -/
section
variable {X : Cx} {z : Z} {Q : Sl → Z → Prop} {i j : Int}
theorem rd_addI (h : Q (.sh (.int (i + j))) z) : RD X (binaryOp .Add) (.sh (.int i)) (.sh (.int j)) z Q := fun c w σ v u k b r1 r2 hk => by
  cases Dp_int r1
  cases Dp_int r2
  exact rB_of op_add ⟨i, j, rfl, rfl, hk _ _ w z b (.refl w) (vI _) h⟩
theorem rd_subI (h : Q (.sh (.int (i - j))) z) : RD X (binaryOp .Sub) (.sh (.int i)) (.sh (.int j)) z Q := fun c w σ v u k b r1 r2 hk => by
  cases Dp_int r1
  cases Dp_int r2
  exact rB_of op_sub ⟨i, j, rfl, rfl, hk _ _ w z b (.refl w) (vI _) h⟩
theorem rd_mulI (hc : CMul i j) (h : Q (.sh (.int (i * j))) z) : RD X (binaryOp .Mult) (.sh (.int i)) (.sh (.int j)) z Q := fun c w σ v u k b r1 r2 hk => by
  cases Dp_int r1
  cases Dp_int r2
  exact rB_of op_mul ⟨i, j, rfl, rfl, hc, hk _ _ w z b (.refl w) (vI _) h⟩
theorem rd_modI (hc : 0 < j) (h : Q (.sh (.int (i % j))) z) : RD X (binaryOp .Mod) (.sh (.int i)) (.sh (.int j)) z Q := fun c w σ v u k b r1 r2 hk => by
  cases Dp_int r1
  cases Dp_int r2
  exact rB_of op_mod ⟨i, j, rfl, rfl, hc, hk _ _ w z b (.refl w) (vI _) h⟩
theorem rd_fdivI (hc : 0 < j ∧ j < 1073741824) (h : Q (.sh (.int (i / j))) z) : RD X (binaryOp .FloorDiv) (.sh (.int i)) (.sh (.int j)) z Q := fun c w σ v u k b r1 r2 hk => by
  cases Dp_int r1
  cases Dp_int r2
  exact rB_of op_fdiv ⟨i, j, rfl, rfl, hc, hk _ _ w z b (.refl w) (vI _) h⟩
theorem rd_powI (hc : CPow i j) (h : Q (.sh (.int (i ^ j.toNat))) z) : RD X (binaryOp .Pow) (.sh (.int i)) (.sh (.int j)) z Q := fun c w σ v u k b r1 r2 hk => by
  cases Dp_int r1
  cases Dp_int r2
  exact rB_of op_pow ⟨i, j, rfl, rfl, hc, hk _ _ w z b (.refl w) (vI _) h⟩
theorem rd_addS {x y : Str} (hc : x.length + y.length ≤ sizeLine) (h : Q (.sh (.str (x ++ y))) z) : RD X (binaryOp .Add) (.sh (.str x)) (.sh (.str y)) z Q := fun c w σ v u k b r1 r2 hk => by
  cases Dp_str r1
  cases Dp_str r2
  exact rB_of op_add_str ⟨x, y, rfl, rfl, hc, hk _ _ w z b (.refl w) (vS _) h⟩
theorem rd_ltI (h : Q (.sh (.bool (decide (i < j)))) z) : RD X (compareOp .Lt) (.sh (.int i)) (.sh (.int j)) z Q := fun c w σ v u k b r1 r2 hk => by
  cases Dp_int r1
  cases Dp_int r2
  exact rB_of op_lt ⟨i, j, rfl, rfl, hk _ _ w z b (.refl w) (vB _) h⟩
theorem rd_leI (h : Q (.sh (.bool (decide (i ≤ j)))) z) : RD X (compareOp .LtE) (.sh (.int i)) (.sh (.int j)) z Q := fun c w σ v u k b r1 r2 hk => by
  cases Dp_int r1
  cases Dp_int r2
  exact rB_of op_le ⟨i, j, rfl, rfl, hk _ _ w z b (.refl w) (vB _) h⟩
theorem rd_gtI (h : Q (.sh (.bool (decide (j < i)))) z) : RD X (compareOp .Gt) (.sh (.int i)) (.sh (.int j)) z Q := fun c w σ v u k b r1 r2 hk => by
  cases Dp_int r1
  cases Dp_int r2
  exact rB_of op_gt ⟨i, j, rfl, rfl, hk _ _ w z b (.refl w) (vB _) h⟩
theorem rd_geI (h : Q (.sh (.bool (decide (j ≤ i)))) z) : RD X (compareOp .GtE) (.sh (.int i)) (.sh (.int j)) z Q := fun c w σ v u k b r1 r2 hk => by
  cases Dp_int r1
  cases Dp_int r2
  exact rB_of op_ge ⟨i, j, rfl, rfl, hk _ _ w z b (.refl w) (vB _) h⟩
theorem dint_eq : decide ((V.int i) = .int j) = decide (i = j) := by simp
theorem rd_eqI (h : Q (.sh (.bool (decide (i = j)))) z) : RD X (compareOp .Eq) (.sh (.int i)) (.sh (.int j)) z Q := fun c w σ v u k b r1 r2 hk => by
  cases Dp_int r1
  cases Dp_int r2
  refine rB_of op_eq ⟨rfl, ?_⟩
  rw [dint_eq]
  exact hk _ _ w z b (.refl w) (vB _) h
theorem rd_neI (h : Q (.sh (.bool (!decide (i = j)))) z) : RD X (compareOp .NotEq) (.sh (.int i)) (.sh (.int j)) z Q := fun c w σ v u k b r1 r2 hk => by
  cases Dp_int r1
  cases Dp_int r2
  refine rB_of op_ne ⟨rfl, ?_⟩
  rw [dint_eq]
  exact hk _ _ w z b (.refl w) (vB _) h
theorem rd_eqB {p q : Bool} (h : Q (.sh (.bool (decide (p = q)))) z) : RD X (compareOp .Eq) (.sh (.bool p)) (.sh (.bool q)) z Q := fun c w σ v u k b r1 r2 hk => by
  cases Dp_bl r1
  cases Dp_bl r2
  refine rB_of op_eq ⟨rfl, ?_⟩
  rw [show decide ((V.bl p) = .bl q) = decide (p = q) by simp]
  exact hk _ _ w z b (.refl w) (vB _) h
theorem rd_neB {p q : Bool} (h : Q (.sh (.bool (!decide (p = q)))) z) : RD X (compareOp .NotEq) (.sh (.bool p)) (.sh (.bool q)) z Q := fun c w σ v u k b r1 r2 hk => by
  cases Dp_bl r1
  cases Dp_bl r2
  refine rB_of op_ne ⟨rfl, ?_⟩
  rw [show decide ((V.bl p) = .bl q) = decide (p = q) by simp]
  exact hk _ _ w z b (.refl w) (vB _) h
theorem rd_eqS {p q : Str} (h : Q (.sh (.bool (decide (p = q)))) z) : RD X (compareOp .Eq) (.sh (.str p)) (.sh (.str q)) z Q := fun c w σ v u k b r1 r2 hk => by
  cases Dp_str r1
  cases Dp_str r2
  refine rB_of op_eq ⟨rfl, ?_⟩
  rw [show decide ((V.str p) = .str q) = decide (p = q) by simp]
  exact hk _ _ w z b (.refl w) (vB _) h
theorem rd_neS {p q : Str} (h : Q (.sh (.bool (!decide (p = q)))) z) : RD X (compareOp .NotEq) (.sh (.str p)) (.sh (.str q)) z Q := fun c w σ v u k b r1 r2 hk => by
  cases Dp_str r1
  cases Dp_str r2
  refine rB_of op_ne ⟨rfl, ?_⟩
  rw [show decide ((V.str p) = .str q) = decide (p = q) by simp]
  exact hk _ _ w z b (.refl w) (vB _) h
/-- data of any depth -/
theorem shaped_nd {d : PyData} (h : SeqAt.shaped d = true) : d.hasDict = false := by
  unfold SeqAt.shaped at h
  rw [Bool.and_eq_true] at h
  exact PyData.hasDict_of_canLay d h.1
theorem Vl.dp {K : PySem.W.Frag} {c : Ct} {w : Wd} {σ : St} (b : B K c w σ z) {v : V} {d : PyData} (h : Vl K w v (.sh d)) (n : SeqAt.shaped d = true) : L2.Dp K w.H v d := (Dp_mono b.same h).dp (shaped_nd n)
theorem rd_eqD {d e : PyData} (hu : X.A.units + 64 < cLine) (hd : SeqAt.shaped d = true) (he : SeqAt.shaped e = true) (h : Q (.sh (.bool (PyData.eqv d e))) z) : RD X (compareOp .Eq) (.sh d) (.sh e) z Q := fun c w σ v u k b r1 r2 hk =>
  rB_of (op_eqD hu) ⟨d, e, r1.dp b hd, r2.dp b he, hd, he, hk _ _ w z b (.refl w) (vB _) h⟩
theorem rd_neD {d e : PyData} (hu : X.A.units + 64 < cLine) (hd : SeqAt.shaped d = true) (he : SeqAt.shaped e = true) (h : Q (.sh (.bool (!PyData.eqv d e))) z) : RD X (compareOp .NotEq) (.sh d) (.sh e) z Q := fun c w σ v u k b r1 r2 hk =>
  rB_of (op_neD hu) ⟨d, e, r1.dp b hd, r2.dp b he, hd, he, hk _ _ w z b (.refl w) (vB _) h⟩
def isNone : PyData → Bool
  | .none => true
  | _ => false
theorem Dp_isN {K : PySem.W.Frag} {H : Hp} {v : V} {d : PyData} (h : Dq K H v d) : decide (v = .non) = isNone d := by cases h <;> rfl
theorem rd_isN {d : PyData} (h : Q (.sh (.bool (isNone d))) z) : RD X (compareOp .Is) (.sh d) (.sh .none) z Q := fun c w σ v u k b r1 r2 hk => by
  cases Dp_non r2
  refine rB_of op_isN ⟨rfl, ?_⟩
  rw [Dp_isN r1]
  exact hk _ _ w z b (.refl w) (vB _) h
theorem rd_notN {d : PyData} (h : Q (.sh (.bool (!isNone d))) z) : RD X (compareOp .IsNot) (.sh d) (.sh .none) z Q := fun c w σ v u k b r1 r2 hk => by
  cases Dp_non r2
  refine rB_of op_notN ⟨rfl, ?_⟩
  rw [Dp_isN r1]
  exact hk _ _ w z b (.refl w) (vB _) h
theorem ud_neg (h : Q (.sh (.int (-i))) z) : UD X (unaryOp .USub) (.sh (.int i)) z Q := fun c w σ v k b r1 hk => by
  cases Dp_int r1
  exact uB_of un_neg ⟨i, rfl, hk _ _ w z b (.refl w) (vI _) h⟩
/-! lists: +, * -/
def rCatR (K : PySem.W.Frag) : R2 := fun x y H Q => ∃ l b xs zs, x = .ref l ∧ y = .ref b ∧ Rd H l (.lst xs) ∧ Rd H b (.lst zs) ∧ xs.length + zs.length ≤ sizeLine ∧ ∀ p, H p = none → Q (.ref p) (upd H p (.lst (xs ++ zs)))
theorem op_catR : OpR X (binaryOp .Add) (rCatR X.K) := by
  intro pins s σ H x y v u Q I rx ry h
  obtain ⟨l, b, xs, zs, rfl, rfl, hH, hB, hz, q⟩ := h
  cases rx
  cases ry
  obtain ⟨z, its, n, r, e⟩ := hH.ok I.hok
  obtain ⟨z2, its2, n2, r2, e2⟩ := hB.ok I.hok
  have hl := r.length
  have hl2 := r2.length
  refine PySem.P.add_list e e2 ?_ (by rw [List.size_toArray, List.size_toArray]; omega)
  have ea : its.toArray ++ its2.toArray = (its ++ its2).toArray := by simp
  rw [ea]
  exact ⟨.ref _, _, I.lnew (t' := s.toks) (r.append r2) (by rw [List.length_append]; omega), rfl, q _ I.fresh⟩
theorem DqAll_app {K : PySem.W.Frag} {H : Hp} : ∀ {vs us : List V} {ds es : List PyData}, DqAll K H vs ds → DqAll K H us es → DqAll K H (vs ++ us) (ds ++ es)
  | _, _, _, _, .nil, h => h
  | _, _, _, _, .cons h t, r => .cons h (DqAll_app t r)
theorem rd_catF {ds es : List PyData} (hc : ds.length + es.length ≤ 100000) (h : Q (.sh (.list (ds ++ es))) z) : RD X (binaryOp .Add) (.sh (.list ds)) (.sh (.list es)) z Q := fun c w σ v u k b r1 r2 hk => by
  obtain ⟨p, xs, rfl, h1, s1⟩ := Dp_lstI r1
  obtain ⟨q, ys, rfl, h2, s2⟩ := Dp_lstI r2
  refine rB_of op_catR ⟨p, q, xs, ys, rfl, rfl, Same.rd b.same h1, Same.rd b.same h2, ?_, new_lstF b (DqAll_app s1 s2) hk h⟩
  rw [DpAll_len s1, DpAll_len s2]
  exact Nat.le_trans hc (by decide)
theorem rd_catO {ds es : List PyData} (hc : ds.length + es.length ≤ 100000) (h : Q (.ob z.ob.length) ⟨z.sl, z.ob ++ [.lst ((ds ++ es).map .sh)]⟩) : RD X (binaryOp .Add) (.sh (.list ds)) (.sh (.list es)) z Q := fun c w σ v u k b r1 r2 hk => by
  obtain ⟨p, xs, rfl, h1, s1⟩ := Dp_lstI r1
  obtain ⟨q, ys, rfl, h2, s2⟩ := Dp_lstI r2
  refine rB_of op_catR ⟨p, q, xs, ys, rfl, rfl, Same.rd b.same h1, Same.rd b.same h2, ?_, new_lst b (dp_allSh (DqAll_app s1 s2)) hk h⟩
  rw [DpAll_len s1, DpAll_len s2]
  exact Nat.le_trans hc (by decide)
end

/-! ### subscripts -/
def ixB (X : Cx) : R2 := fun x y H Q => ∀ (value slice : Expr) (pins : List (Addr × Obj)) (s : Shared) (σ : St) (v u : Value), Inv X pins σ H s → RelV x v → RelV y u → subscripted slice false v u = operate [v, u] (getItem v u) →
  wpAny (model X.prog X.w) X.A (subscriptTail value slice v u) (EP X pins σ Q) X.xe s
theorem ixB_op {X : Cx} : IxR X (ixB X) := fun value slice pins s σ _ _ _ v u _ I rx ry h hs => h value slice pins s σ v u I rx ry hs
theorem ixB_of {X : Cx} {r : R2} {H : Hp} {x y : V} {Q : VK} (o : IxR X r) (h : r x y H Q) : ixB X x y H Q := fun value slice pins s σ v u I rx ry hs => o value slice pins s σ H x y v u Q I rx ry h hs
def ID (X : Cx) (x y : Sl) (z : Z) (Q : Sl → Z → Prop) : Prop := ∀ c w σ v u k, B X.K c w σ z → Vl X.K w v x → Vl X.K w u y → Cont X.K c w σ Q k → ixB X v u w.H k
section
variable {X : Cx} {a b : Expr} {z : Z} {pos : Pos} {Q : Sl → Z → Prop}
theorem we_ix (h : WE X a z fun x z1 => WE X b z1 fun y z2 => ID X x y z2 Q) (hs : PlainIx b := by exact fun _ _ => rfl) : WE X (.Subscript a b pos) z Q := fun c w σ k bb hk =>
  tE_of (pe_ix ixB_op peB peB hs) (h c w σ _ bb fun v x w1 z1 b1 l1 q1 h1 => h1 c w1 σ _ b1 fun u y w2 z2 b2 l2 q2 h2 => h2 c w2 σ v u k b2 (q1.mono l2) q2 (hk.le (l1.trans l2)))
theorem atI_paired {α β : Type} {F : α → β → Prop} {xs : List α} {ys : List β} {i : Int} {y : β} (h : Paired F xs ys) (e : atI ys i = some y) : ∃ x, atI xs i = some x ∧ F x y := by
  unfold atI at e ⊢
  rw [h.length]
  obtain ⟨j, h1, h2⟩ := Option.bind_eq_some_iff.mp e
  obtain ⟨x, e1, q⟩ := paired_get h h2
  exact ⟨x, by rw [h1]; exact e1, q⟩
theorem DqAll_paired {K : PySem.W.Frag} {H : Hp} : ∀ {vs : List V} {ds : List PyData}, DqAll K H vs ds → Paired (Dq K H) vs ds
  | _, _, .nil => .nil
  | _, _, .cons h t => .cons h (DqAll_paired t)
theorem paired_DqAll {K : PySem.W.Frag} {H : Hp} : ∀ {vs : List V} {ds : List PyData}, Paired (Dq K H) vs ds → DqAll K H vs ds
  | _, _, .nil => .nil
  | _, _, .cons h t => .cons h (paired_DqAll t)
theorem id_L {ds : List PyData} {i : Int} {d : PyData} (e : atI ds i = some d) (h : Q (.sh d) z) : ID X (.sh (.list ds)) (.sh (.int i)) z Q := fun c w σ v u k b r1 r2 hk => by
  obtain ⟨p, xs, rfl, h1, s1⟩ := Dp_lstI r1
  cases Dp_int r2
  obtain ⟨x, e1, q⟩ := atI_paired (DqAll_paired s1) e
  exact ixB_of ix_list ⟨p, xs, i, x, rfl, rfl, .inl (Same.rd b.same h1), e1, hk _ _ w z b (.refl w) (vsh q) h⟩
theorem id_T {ds : List PyData} {i : Int} {d : PyData} (e : atI ds i = some d) (h : Q (.sh d) z) : ID X (.sh (.tuple ds)) (.sh (.int i)) z Q := fun c w σ v u k b r1 r2 hk => by
  obtain ⟨p, xs, rfl, h1, s1⟩ := Dp_tupI r1
  cases Dp_int r2
  obtain ⟨x, e1, q⟩ := atI_paired (DqAll_paired s1) e
  exact ixB_of ix_tup ⟨p, xs, i, x, rfl, rfl, Same.tup b.same h1, e1, hk _ _ w z b (.refl w) (vsh q) h⟩
theorem id_S {t : Str} {i : Int} {d : Nat} (hl : t.length ≤ sizeLine) (e : atI t.cps.toList i = some d) (h : Q (.sh (.str ⟨#[d]⟩)) z) : ID X (.sh (.str t)) (.sh (.int i)) z Q := fun c w σ v u k b r1 r2 hk => by
  cases Dp_str r1
  cases Dp_int r2
  exact ixB_of ix_str ⟨t, i, d, rfl, rfl, hl, e, hk _ _ w z b (.refl w) (vS _) h⟩
theorem id_O {n : Nat} {xs : List Sl} {i : Int} {y : Sl} (ho : z.ob[n]? = some (.lst xs)) (e : atI xs i = some y) (h : Q y z) : ID X (.ob n) (.sh (.int i)) z Q := fun c w σ v u k b r1 r2 hk => by
  obtain ⟨p, hp, rfl⟩ := r1
  cases Dp_int r2
  obtain ⟨_, vs, hH, hv⟩ := b.ob n _ p ho hp
  obtain ⟨x, e1, q⟩ := atI_paired hv e
  exact ixB_of ix_list ⟨p, vs, i, x, rfl, rfl, .inl (.inl hH), e1, hk _ _ w z b (.refl w) q h⟩
/-! slices -/
def slB (X : Cx) : V → Option Int → Option Int → Hp → VK → Prop := fun x lo hi H Q => ∀ (pins : List (Addr × Obj)) (s : Shared) (σ : St) (v vl vu : Value) (sl : Addr), Inv X pins σ H s → RelV x v → s.heap.IsSliceOf sl vl vu .none → IsPart vl lo → IsPart vu hi →
    ∃ T id, typeLookup (.type T) "__getitem__" = pure (some (.builtin id)) ∧ s.TypeIs v T ∧ wpAny (model X.prog X.w) X.A (getItem v (.ref sl)) (EP X pins σ Q) X.xe s
theorem slB_op : SlR X (slB X) := fun pins s σ _ _ v vl vu lo hi sl _ I rx h1 h2 h3 h => h pins s σ v vl vu sl I rx h1 h2 h3
theorem slB_of {r : V → Option Int → Option Int → Hp → VK → Prop} {H : Hp} {x : V} {lo hi : Option Int} {k : VK} (o : SlR X r) (h : r x lo hi H k) : slB X x lo hi H k := fun pins s σ v vl vu sl I rx h1 h2 h3 => o pins s σ H x v vl vu lo hi sl k I rx h1 h2 h3 h
def SD (X : Cx) (x : Sl) (lo hi : Option Int) (z : Z) (Q : Sl → Z → Prop) : Prop := ∀ c w σ v k, B X.K c w σ z → Vl X.K w v x → Cont X.K c w σ Q k → slB X v lo hi w.H k
def WO (X : Cx) (o : Option Expr) (z : Z) (Q : Option Int → Z → Prop) : Prop := match o with
  | none => Q none z
  | some e => WE X e z fun x z1 => ∃ i, x = .sh (.int i) ∧ Q (some i) z1
def tO (X : Cx) : Option Expr → TO
  | none => tNoPart
  | some e => tPart (tE X e)
theorem poB : ∀ {o : Option Expr}, PO X o (tO X o)
  | none => po_none
  | some _ => po_some peB
theorem wo_ok {P : Option Int → Z → Prop} : ∀ {o : Option Expr}, WO X o z P → ∀ c w σ (k : Option Int → Hp → Prop), B X.K c w σ z → (∀ i w' z', B X.K c w' σ z' → w.Le w' → P i z' → k i w'.H) → tO X o σ w.H k
  | none, h, c, w, σ, k, b, hk => hk none w z b (.refl w) h
  | some _, h, c, w, σ, k, b, hk => h c w σ _ b fun v x w' z' b' l r ⟨i, e, hp⟩ => ⟨i, Dp_int (e ▸ r), hk _ w' z' b' l hp⟩
theorem wo_none {P : Option Int → Z → Prop} (h : P none z) : WO X none z P := h
theorem wo_some {P : Option Int → Z → Prop} (h : WE X a z fun x z1 => ∃ i, x = .sh (.int i) ∧ P (some i) z1) : WO X (some a) z P := h
theorem we_sl {lo hi : Option Expr} {p2 : Pos} (h : WE X a z fun x z1 => WO X lo z1 fun l z2 => WO X hi z2 fun u z3 => SD X x l u z3 Q) : WE X (.Subscript a (.Slice lo hi none p2) pos) z Q := fun c w σ k bb hk =>
  tE_of (pe_slice slB_op peB poB poB) (h c w σ _ bb fun v x w1 z1 b1 l1 q1 h1 => wo_ok h1 c w1 σ _ b1 fun i w2 z2 b2 l2 h2 => wo_ok h2 c w2 σ _ b2 fun j w3 z3 b3 l3 h3 => h3 c w3 σ v k b3 (q1.mono (l2.trans l3)) (hk.le ((l1.trans l2).trans l3)))
def cutL {α : Type} (xs : List α) (lo hi : Option Int) : List α := (xs.drop (HT.sIx xs.length 0 lo)).take (HT.sIx xs.length xs.length hi - HT.sIx xs.length 0 lo)
theorem paired_cut {α β : Type} {F : α → β → Prop} {xs : List α} {ys : List β} (h : Paired F xs ys) (lo hi : Option Int) : Paired F (cutL xs lo hi) (cutL ys lo hi) := by
  unfold cutL
  rw [h.length]
  exact paired_take _ (paired_drop _ h)
theorem sd_LF {ds : List PyData} {lo hi : Option Int} (h : Q (.sh (.list (cutL ds lo hi))) z) : SD X (.sh (.list ds)) lo hi z Q := fun c w σ v k b r1 hk => by
  obtain ⟨p, xs, rfl, h1, s1⟩ := Dp_lstI r1
  exact slB_of sl_list ⟨p, xs, rfl, .inl (Same.rd b.same h1), new_lstF b (paired_DqAll (paired_cut (DqAll_paired s1) lo hi)) hk h⟩
theorem cutL_whole {α : Type} {xs : List α} {lo hi : Option Int} (h : HT.sIx xs.length 0 lo = 0 ∧ HT.sIx xs.length xs.length hi = xs.length) : cutL xs lo hi = xs := by
  unfold cutL
  rw [h.1, h.2, List.drop_zero, Nat.sub_zero, List.take_length]
theorem sd_T {ds : List PyData} {lo hi : Option Int} (h : Q (.sh (.tuple (cutL ds lo hi))) z) : SD X (.sh (.tuple ds)) lo hi z Q := fun c w σ v k b r1 hk => by
  obtain ⟨p, xs, rfl, h1, s1⟩ := Dp_tupP r1
  have hl := DpAll_len s1
  refine slB_of sl_tupP ⟨p, xs, rfl, Same.tup b.same h1.sq, fun hw => ?_, fun _ => new_tup b (paired_DqAll (paired_cut (DqAll_paired s1) lo hi)) hk h⟩
  rw [hl] at hw
  rw [cutL_whole hw] at h
  exact hk _ _ w z b (.refl w) r1 h
theorem rd_catT {ds es : List PyData} (hc : ds.length + es.length ≤ 100000) (h : Q (.sh (.tuple (ds ++ es))) z) : RD X (binaryOp .Add) (.sh (.tuple ds)) (.sh (.tuple es)) z Q := fun c w σ v u k b r1 r2 hk => by
  obtain ⟨p, xs, rfl, h1, s1⟩ := Dp_tupP r1
  obtain ⟨q, ys, rfl, h2, s2⟩ := Dp_tupP r2
  refine rB_of op_catP ⟨p, q, xs, ys, rfl, rfl, Same.tup b.same h1.sq, Same.tup b.same h2.sq, ?_, fun e => ?_, fun _ e => ?_, fun _ _ => new_tup b (DqAll_app s1 s2) hk h⟩
  · rw [DpAll_len s1, DpAll_len s2]
    exact Nat.le_trans hc (by decide)
  · subst e
    cases s1
    exact hk _ _ w z b (.refl w) r2 h
  · subst e
    cases s2
    rw [List.append_nil] at h
    exact hk _ _ w z b (.refl w) r1 h
theorem sd_S {t : Str} {lo hi : Option Int} (hl : t.length ≤ sizeLine) (h : Q (.sh (.str (cutS t lo hi))) z) : SD X (.sh (.str t)) lo hi z Q := fun c w σ v k b r1 hk => by
  cases Dp_str r1
  exact slB_of sl_str ⟨t, rfl, hl, hk _ _ w z b (.refl w) (vS _) h⟩
end
end Dl

namespace Dl
open PySem PySem.Spec L2
open PyProof.Rows hiding St

/-! ### built-ins by name -/
section
variable {X : Cx} {x : Str} {p pos : Pos} {e : Expr} {es : List Expr} {z : Z} {Q : Sl → Z → Prop} {id T : String}
theorem we_bi (hm : X.mg x = none) (hv : bootBuiltins x = some (.builtin id)) (h : WA X (e :: es) z fun xs z1 => CD X (.builtin id) xs z1 Q) (hg : Gl X x := by rfl) (hn : x ≠ "__name__" := by decide) (hdb : (x == ("__debug__" : Str)) = false := by decide)
    (he : starEach (e :: es) X.env = (false, eval e X.env) :: starEach es X.env := by rfl) (hpl : (backTo pos (starEach es X.env)).any (·.1) = false := by rfl) : WE X (.Call (.Name x p) (e :: es) [] pos) z Q := fun c w σ k bb hk =>
  tE_of (pe_callB cB_op hg hm hv paB hn hdb he hpl) (h c w σ _ bb fun vs xs w1 z1 b1 l1 hv h1 => h1 c w1 σ vs k b1 hv (hk.le l1))
theorem we_ty (hm : X.mg x = none) (hv : bootBuiltins x = some (.type T)) (h : WA X (e :: es) z fun xs z1 => CD X (.type T) xs z1 Q) (hg : Gl X x := by rfl) (hn : x ≠ "__name__" := by decide) (hdb : (x == ("__debug__" : Str)) = false := by decide)
    (he : starEach (e :: es) X.env = (false, eval e X.env) :: starEach es X.env := by rfl) (hpl : (backTo pos (starEach es X.env)).any (·.1) = false := by rfl) : WE X (.Call (.Name x p) (e :: es) [] pos) z Q := fun c w σ k bb hk =>
  tE_of (pe_callTy cB_op hg hm hv paB hn hdb he hpl) (h c w σ _ bb fun vs xs w1 z1 b1 l1 hv h1 => h1 c w1 σ vs k b1 hv (hk.le l1))
theorem p1 {K : PySem.W.Frag} {w : Wd} {vs : List V} {x : Sl} (h : Paired (Vl K w) vs [x]) : ∃ v, vs = [v] ∧ Vl K w v x := by
  cases h with
  | cons q t =>
    cases t
    exact ⟨_, rfl, q⟩
theorem p2 {K : PySem.W.Frag} {w : Wd} {vs : List V} {x y : Sl} (h : Paired (Vl K w) vs [x, y]) : ∃ v u, vs = [v, u] ∧ Vl K w v x ∧ Vl K w u y := by
  cases h with
  | cons q t =>
    obtain ⟨u, rfl, r⟩ := p1 t
    exact ⟨_, _, rfl, q, r⟩
theorem cd_lenL {ds : List PyData} (h : Q (.sh (.int ds.length)) z) : CD X (.builtin "len") [.sh (.list ds)] z Q := fun c w σ vs k b rr hk => by
  obtain ⟨v, rfl, r⟩ := p1 rr
  obtain ⟨p, xs, rfl, h1, s1⟩ := Dp_lstI r
  refine cB_of call_len_seq ⟨p, xs, rfl, .inl (.inl (Same.rd b.same h1)), ?_⟩
  rw [DpAll_len s1]
  exact hk _ _ w z b (.refl w) (vI _) h
theorem cd_lenT {ds : List PyData} (h : Q (.sh (.int ds.length)) z) : CD X (.builtin "len") [.sh (.tuple ds)] z Q := fun c w σ vs k b rr hk => by
  obtain ⟨v, rfl, r⟩ := p1 rr
  obtain ⟨p, xs, rfl, h1, s1⟩ := Dp_tupI r
  refine cB_of call_len_seq ⟨p, xs, rfl, .inr (Same.tup b.same h1), ?_⟩
  rw [DpAll_len s1]
  exact hk _ _ w z b (.refl w) (vI _) h
theorem cd_lenS {t : Str} (hl : t.length ≤ sizeLine) (h : Q (.sh (.int t.length)) z) : CD X (.builtin "len") [.sh (.str t)] z Q := fun c w σ vs k b rr hk => by
  obtain ⟨v, rfl, r⟩ := p1 rr
  cases Dp_str r
  exact cB_of call_len_str ⟨t, rfl, hl, hk _ _ w z b (.refl w) (vI _) h⟩
theorem cd_lenO {i : Nat} {xs : List Sl} (ho : z.ob[i]? = some (.lst xs)) (h : Q (.sh (.int xs.length)) z) : CD X (.builtin "len") [.ob i] z Q := fun c w σ vs k b rr hk => by
  obtain ⟨v, rfl, p, hp, rfl⟩ := p1 rr
  obtain ⟨_, vs, hH, hv⟩ := b.ob i _ p ho hp
  refine cB_of call_len_seq ⟨p, vs, rfl, .inl (.inl (.inl hH)), ?_⟩
  rw [hv.length]
  exact hk _ _ w z b (.refl w) (vI _) h
theorem cd_abs {i : Int} (h : Q (.sh (.int (if i < 0 then -i else i))) z) : CD X (.builtin "abs") [.sh (.int i)] z Q := fun c w σ vs k b rr hk => by
  obtain ⟨v, rfl, r⟩ := p1 rr
  cases Dp_int r
  exact cB_of call_abs ⟨i, rfl, hk _ _ w z b (.refl w) (vI _) h⟩
theorem cd_max {i j : Int} (h : Q (.sh (.int (if j > i then j else i))) z) (hc : X.calm = true := by rfl) : CD X (.builtin "max") [.sh (.int i), .sh (.int j)] z Q := fun c w σ vs k b rr hk => by
  obtain ⟨v, u, rfl, r, r'⟩ := p2 rr
  cases Dp_int r
  cases Dp_int r'
  exact cB_of (call_max2 hc) ⟨i, j, rfl, hk _ _ w z b (.refl w) (vI _) h⟩
theorem cd_min {i j : Int} (h : Q (.sh (.int (if j < i then j else i))) z) (hc : X.calm = true := by rfl) : CD X (.builtin "min") [.sh (.int i), .sh (.int j)] z Q := fun c w σ vs k b rr hk => by
  obtain ⟨v, u, rfl, r, r'⟩ := p2 rr
  cases Dp_int r
  cases Dp_int r'
  exact cB_of (call_min2 hc) ⟨i, j, rfl, hk _ _ w z b (.refl w) (vI _) h⟩
theorem cd_intI {i : Int} (h : Q (.sh (.int i)) z) : CD X (.type "int") [.sh (.int i)] z Q := fun c w σ vs k b rr hk => by
  obtain ⟨v, rfl, r⟩ := p1 rr
  cases Dp_int r
  exact cB_of call_int1 (.inl ⟨i, rfl, hk _ _ w z b (.refl w) (vI _) h⟩)
theorem cd_intB {i : Bool} (h : Q (.sh (.int (if i then 1 else 0))) z) : CD X (.type "int") [.sh (.bool i)] z Q := fun c w σ vs k b rr hk => by
  obtain ⟨v, rfl, r⟩ := p1 rr
  cases Dp_bl r
  exact cB_of call_int1 (.inr ⟨i, rfl, hk _ _ w z b (.refl w) (vI _) h⟩)
def bls : List PyData → Option (List Bool)
  | [] => some []
  | .bool b :: r => (bls r).map (b :: ·)
  | _ => none
theorem bls_v {K : PySem.W.Frag} {H : Hp} : ∀ {ds : List PyData} {vs : List V} {bs : List Bool}, bls ds = some bs → DqAll K H vs ds → vs = bs.map V.bl
  | [], _, _, e, .nil => by
    cases e
    rfl
  | .bool b :: r, _, _, e, .cons q t => by
    unfold bls at e
    obtain ⟨bs, e1, rfl⟩ := Option.map_eq_some_iff.mp e
    rw [bls_v e1 t, Dp_bl q]
    rfl
theorem bls_map (bs : List Bool) : bls (bs.map PyData.bool) = some bs := by
  induction bs with
  | nil => rfl
  | cons b r ih =>
    show (bls (r.map PyData.bool)).map (b :: ·) = _
    rw [ih]
    rfl
theorem cd_all {ds : List PyData} {bs : List Bool} (e : bls ds = some bs) (h : Q (.sh (.bool (bs.all _root_.id))) z) (hc : X.calm = true := by rfl) : CD X (.builtin "all") [.sh (.list ds)] z Q := fun c w σ vs k b rr hk => by
  obtain ⟨v, rfl, r⟩ := p1 rr
  obtain ⟨p, xs, rfl, h1, s1⟩ := Dp_lstI r
  rw [bls_v e s1] at h1
  exact cB_of (cr_all hc) ⟨p, bs, rfl, .inl (Same.rd b.same h1), hk _ _ w z b (.refl w) (vB _) h⟩
theorem cd_any {ds : List PyData} {bs : List Bool} (e : bls ds = some bs) (h : Q (.sh (.bool (bs.any _root_.id))) z) (hc : X.calm = true := by rfl) : CD X (.builtin "any") [.sh (.list ds)] z Q := fun c w σ vs k b rr hk => by
  obtain ⟨v, rfl, r⟩ := p1 rr
  obtain ⟨p, xs, rfl, h1, s1⟩ := Dp_lstI r
  rw [bls_v e s1] at h1
  exact cB_of (cr_any hc) ⟨p, bs, rfl, .inl (Same.rd b.same h1), hk _ _ w z b (.refl w) (vB _) h⟩
theorem cd_listL {ds : List PyData} (h : Q (.sh (.list ds)) z) : CD X (.type "list") [.sh (.list ds)] z Q := fun c w σ vs k b rr hk => by
  obtain ⟨v, rfl, r⟩ := p1 rr
  obtain ⟨p, xs, rfl, h1, s1⟩ := Dp_lstI r
  exact cB_of call_list_of ⟨p, xs, rfl, .inl (.inl (Same.rd b.same h1)), new_lstF b s1 hk h⟩
theorem cd_listT {ds : List PyData} (h : Q (.sh (.list ds)) z) : CD X (.type "list") [.sh (.tuple ds)] z Q := fun c w σ vs k b rr hk => by
  obtain ⟨v, rfl, r⟩ := p1 rr
  obtain ⟨p, xs, rfl, h1, s1⟩ := Dp_tupI r
  exact cB_of call_list_of ⟨p, xs, rfl, .inr (Same.tup b.same h1), new_lstF b s1 hk h⟩
theorem cd_tupL {ds : List PyData} (h : Q (.sh (.tuple ds)) z) : CD X (.type "tuple") [.sh (.list ds)] z Q := fun c w σ vs k b rr hk => by
  obtain ⟨v, rfl, r⟩ := p1 rr
  obtain ⟨p, xs, rfl, h1, s1⟩ := Dp_lstI r
  exact cB_of call_tupleP ⟨p, xs, rfl, .inl ⟨.inl (Same.rd b.same h1), new_tup b s1 hk h⟩⟩
theorem cd_tupT {ds : List PyData} (h : Q (.sh (.tuple ds)) z) : CD X (.type "tuple") [.sh (.tuple ds)] z Q := fun c w σ vs k b rr hk => by
  obtain ⟨v, rfl, r⟩ := p1 rr
  obtain ⟨p, xs, rfl, h1, s1⟩ := Dp_tupP r
  exact cB_of call_tupleP ⟨p, xs, rfl, .inr ⟨Same.tup b.same h1.sq, hk _ _ w z b (.refl w) (vsh (Dq.tup h1 s1)) h⟩⟩
theorem DqAll_ints {K : PySem.W.Frag} {H : Hp} : ∀ (ns : List Int), DqAll K H (ns.map V.int) (ns.map PyData.int)
  | [] => .nil
  | n :: ns => .cons (.int n) (DqAll_ints ns)
theorem ints_v {K : PySem.W.Frag} {H : Hp} : ∀ {ns : List Int} {vs : List V}, DqAll K H vs (ns.map PyData.int) → vs = ns.map V.int
  | [], _, .nil => rfl
  | _ :: _, _, .cons q t => by
    rw [List.map_cons, ints_v t, Dp_int q]
/-! isinstance -/
def tyName : PyData → String
  | .none => "NoneType"
  | .bool _ => "bool"
  | .int _ => "int"
  | .str _ => "str"
  | .list _ => "list"
  | .tuple _ => "tuple"
  | .dict _ => "dict"
theorem Dq.ty {K : PySem.W.Frag} {H : Hp} {v : V} {d : PyData} (h : Dq K H v d) : TyX K H v (.type (tyName d)) := by
  cases h with
  | non => exact .base .non
  | bl b => exact .base (.bl b)
  | int i => exact .base (.int i)
  | str x => exact .base (.str x)
  | lst h _ =>
    rcases h with h | ⟨o, h⟩
    · exact .base (.lst h)
    · exact .base (.frz h)
  | tup h _ =>
    rcases h with ⟨o, h, _⟩ | ⟨o, its, n, h1, h2, _⟩
    · exact .fTuple h
    · exact .kTuple h1 h2
  | dic h _ _ => exact .base (.dK h)
def Isi (x : Sl) (z : Z) (T : String) (r : Bool) : Prop := match x with
  | .sh d => kitB (tyName d) T = some r
  | .ob i => (∃ xs, z.ob[i]? = some (.lst xs)) ∧ kitB "list" T = some r
  | .no => False
  | .tp _ => False
theorem we_isi {a : Expr} {t : Str} {pt : Pos} {Ps : Bool → Prop} (hm : X.mg "isinstance" = none) (hmt : X.mg t = none) (hvt : bootBuiltins t = some (.type T)) (h : WE X a z fun y z1 => ∃ r, Isi y z1 T r ∧ Q (.sh (.bool r)) z1) (hg : Gl X "isinstance" := by rfl) (hgt : Gl X t := by rfl)
    (hnt : t ≠ "__name__" := by decide) (hdt : (t == ("__debug__" : Str)) = false := by decide)
    (he : starEach [a, .Name t pt] X.env = (false, eval a X.env) :: starEach [.Name t pt] X.env := by rfl) (he2 : starEach [.Name t pt] X.env = (false, eval (.Name t pt) X.env) :: starEach [] X.env := by rfl) (hpl : (backTo pos (starEach [.Name t pt] X.env)).any (·.1) = false := by rfl) :
    WE X (.Call (.Name "isinstance" p) [a, .Name t pt] [] pos) z Q := fun c w σ k bb hk =>
  tE_of (pe_callB call_isi hg hm boot_isinstance (pa_cons peB (pa_cons (pe_bltn (v := .ty T) hgt hmt hvt rfl hnt hdt) pa_nil he2) he) (by decide) (by decide) he hpl) (h c w σ _ bb fun v y w1 z1 b1 l1 r1 ⟨r, hi, hq⟩ => by
    have fin : k (.bl r) w1.H := hk _ _ w1 z1 b1 l1 (vB _) hq
    cases y with
    | no => exact hi.elim
    | tp _ => exact hi.elim
    | sh d => exact ⟨v, .ty T, _, _, r, rfl, .ty T, (Dp_mono b1.same r1).ty, kit_ty hi, fin⟩
    | ob i =>
      obtain ⟨p, hp, rfl⟩ := r1
      obtain ⟨⟨xs, ho⟩, hi⟩ := hi
      obtain ⟨_, vs, hH, hv⟩ := b1.ob i _ p ho hp
      exact ⟨.ref p, .ty T, _, _, r, rfl, .ty T, .base (.lst hH), kit_ty hi, fin⟩)
/-- isinstance(x, (T, U)) -/
theorem we_isi2 {a : Expr} {t u : Str} {T U : String} {pt pu ptt : Pos} {x1} (hm : X.mg "isinstance" = none) (hmt : X.mg t = none) (hvt : bootBuiltins t = some (.type T)) (hmu : X.mg u = none) (hvu : bootBuiltins u = some (.type U))
    (h : WE X a z fun y z1 => ∃ r r', Isi y z1 T r ∧ Isi y z1 U r' ∧ Q (.sh (.bool (r || r'))) z1) (hg : Gl X "isinstance" := by rfl) (hgt : Gl X t := by rfl) (hgu : Gl X u := by rfl)
    (hnt : t ≠ "__name__" := by decide) (hdt : (t == ("__debug__" : Str)) = false := by decide) (hnu : u ≠ "__name__" := by decide) (hdu : (u == ("__debug__" : Str)) = false := by decide)
    (he : starEach [a, .Tuple [.Name t pt, .Name u pu] x1 ptt] X.env = (false, eval a X.env) :: starEach [.Tuple [.Name t pt, .Name u pu] x1 ptt] X.env := by rfl)
    (he2 : starEach [.Tuple [.Name t pt, .Name u pu] x1 ptt] X.env = (false, eval (.Tuple [.Name t pt, .Name u pu] x1 ptt) X.env) :: starEach [] X.env := by rfl)
    (he3 : starEach [.Name t pt, .Name u pu] X.env = (false, eval (.Name t pt) X.env) :: starEach [.Name u pu] X.env := by rfl) (he4 : starEach [.Name u pu] X.env = (false, eval (.Name u pu) X.env) :: starEach [] X.env := by rfl)
    (hpl : (backTo pos (starEach [.Tuple [.Name t pt, .Name u pu] x1 ptt] X.env)).any (·.1) = false := by rfl) :
    WE X (.Call (.Name "isinstance" p) [a, .Tuple [.Name t pt, .Name u pu] x1 ptt] [] pos) z Q := fun c w σ k bb hk =>
  tE_of (pe_callB call_isiT hg hm boot_isinstance (pa_cons peB (pa_cons (pe_tup (pa_cons (pe_bltn (v := .ty T) hgt hmt hvt rfl hnt hdt) (pa_cons (pe_bltn (v := .ty U) hgu hmu hvu rfl hnu hdu) pa_nil he4) he3)) pa_nil he2) he) (by decide) (by decide) he hpl) (h c w σ _ bb fun v y w1 z1 b1 l1 r1 ⟨r, r', hi, hi', hq⟩ => by
    refine ⟨show 2 ≤ sizeLine by decide, fun tp hn => ?_⟩
    have as := b1.asideNew hn
    have b2 := b1.aside (o := .tup [.ty T, .ty U]) as
    have l2 : w1.Le ⟨w1.rho, w1.S, upd w1.H tp (.tup [.ty T, .ty U])⟩ := le_aside
    have fin : k (.bl (r || r')) (upd w1.H tp (.tup [.ty T, .ty U])) := hk _ _ _ z1 b2 (l1.trans l2) (vB _) hq
    have any : ∀ {n : String}, kitB n T = some r → kitB n U = some r' → PySem.W.kitAny X.K (.type n) [.type T, .type U] = some (r || r') := fun {n} h1 h2 => by
      refine kitAny_cons (kit_ty h1) (fun e => ?_) (fun e => by rw [e]; rfl)
      rw [e, Bool.false_or]
      exact kitAny_cons (kit_ty h2) (fun e => by rw [e]; exact kitAny_nil) (fun e => e)
    cases y with
    | no => exact hi.elim
    | tp _ => exact hi.elim
    | sh d => exact ⟨v, tp, _, _, _, _, rfl, upd_same, .cons (.ty T) (.cons (.ty U) .nil), (Dp_mono b2.same r1).ty, any hi hi', fin⟩
    | ob i =>
      obtain ⟨p, hp, rfl⟩ := r1
      obtain ⟨⟨xs, ho⟩, hi⟩ := hi
      obtain ⟨_, hi'⟩ := hi'
      obtain ⟨_, vs, hH, hv⟩ := b2.ob i _ p ho hp
      exact ⟨.ref p, tp, _, _, _, _, rfl, upd_same, .cons (.ty T) (.cons (.ty U) .nil), .base (.lst hH), any hi hi', fin⟩)
end

/-! ### methods of a list of the store -/
section
variable {X : Cx} {o e : Expr} {es : List Expr} {name : Str} {apos cpos : Pos} {id : String} {z : Z} {Q : Sl → Z → Prop}
def MO (X : Cx) (id : String) (i : Nat) (ys : List Sl) (z : Z) (Q : Sl → Z → Prop) : Prop := ∀ c w σ p vs k, B X.K c w σ z → w.rho[i]? = some p → Paired (Vl X.K w) vs ys → Cont X.K c w σ Q k → mB X id (.ref p) vs w.H k
theorem we_mO (slot : Slot "list" name id) (hty : typeOf (.builtin id) = pure (.type "method_descriptor")) (h : WE X o z fun x z1 => ∃ i xs, x = .ob i ∧ z1.ob[i]? = some (.lst xs) ∧ WA X (e :: es) z1 fun ys z2 => MO X id i ys z2 Q)
    (hbase : attributeBase o name X.env (eval o X.env) = eval o X.env := by rfl)
    (hfew : ((backTo cpos (starEach (e :: es) X.env)).all (fun x => !x.1) && (backToKw cpos (keywordEach [] X.env)).all (fun x => x.1.isSome)
      && decide ((e :: es).length + ([] : List Keyword).length + (if ([] : List Keyword).isEmpty then 0 else 1) < 30)) = true := by rfl)
    (hline : (apos.endLine == cpos.line) = true := by rfl) (hs : starEach (e :: es) X.env = (false, eval e X.env) :: starEach es X.env := by rfl) (hplain : (backTo cpos (starEach es X.env)).any (·.1) = false := by rfl) :
    WE X (.Call (.Attribute o name apos) (e :: es) [] cpos) z Q := fun c w σ k bb hk =>
  tE_of (pe_bm F.plainAttrs_list slot hty mB_op peB paB hbase hfew hline hs hplain) (h c w σ _ bb fun v x w1 z1 b1 l1 r1 ⟨i, xs, e1, ho, h1⟩ => by
    subst e1
    obtain ⟨p, hp, rfl⟩ := r1
    obtain ⟨_, vs, hH, hv⟩ := b1.ob i _ p ho hp
    exact ⟨.inl ⟨rfl, vs, .inl (.inl hH)⟩, h1 c w1 σ _ b1 fun us ys w2 z2 b2 l2 r2 h2 => h2 c w2 σ p us k b2 (l2.rho i p hp) r2 (hk.le (l1.trans l2))⟩)
theorem we_mO0 (slot : Slot "list" name id) (hty : typeOf (.builtin id) = pure (.type "method_descriptor")) (h : WE X o z fun x z1 => ∃ i xs, x = .ob i ∧ z1.ob[i]? = some (.lst xs) ∧ MO X id i [] z1 Q)
    (hbase : attributeBase o name X.env (eval o X.env) = eval o X.env := by rfl) (hline : (apos.endLine == cpos.line) = true := by rfl) : WE X (.Call (.Attribute o name apos) [] [] cpos) z Q := fun c w σ k bb hk =>
  tE_of (pe_bm0 F.plainAttrs_list slot hty mB_op peB hbase hline) (h c w σ _ bb fun v x w1 z1 b1 l1 r1 ⟨i, xs, e1, ho, h1⟩ => by
    subst e1
    obtain ⟨p, hp, rfl⟩ := r1
    obtain ⟨_, vs, hH, hv⟩ := b1.ob i _ p ho hp
    exact ⟨.inl ⟨rfl, vs, .inl (.inl hH)⟩, h1 c w1 σ p [] k b1 hp .nil (hk.le l1)⟩)
theorem mo_append {i : Nat} {xs : List Sl} {y : Sl} (ho : z.ob[i]? = some (.lst xs)) (hl : xs.length < 100000) (h : Q (.sh .none) ⟨z.sl, z.ob.set i (.lst (xs ++ [y]))⟩) : MO X "list.append" i [y] z Q := fun c w σ p vs k b hp rr hk => by
  obtain ⟨v, rfl, r⟩ := p1 rr
  obtain ⟨_, us, hH, hv⟩ := b.ob i _ p ho hp
  refine mB_of mt_append ⟨p, us, v, rfl, rfl, hH, ?_, hk _ _ _ _ (b.setO ho hp (hv.snoc r)) le_set vN h⟩
  rw [hv.length]
  exact Nat.lt_of_lt_of_le hl (by decide)
theorem dropLast_paired {α β : Type} {F : α → β → Prop} : ∀ {xs : List α} {ys : List β}, Paired F xs ys → Paired F xs.dropLast ys.dropLast
  | _, _, .nil => .nil
  | _, _, .cons q .nil => .nil
  | _, _, .cons q (.cons q' t) => .cons q (dropLast_paired (.cons q' t))
theorem mo_pop {i : Nat} {xs : List Sl} {y : Sl} (ho : z.ob[i]? = some (.lst (xs ++ [y]))) (h : Q y ⟨z.sl, z.ob.set i (.lst xs)⟩) : MO X "list.pop" i [] z Q := fun c w σ p vs k b hp rr hk => by
  cases rr
  obtain ⟨_, us, hH, hv⟩ := b.ob i _ p ho hp
  have hl := hv.length
  rw [List.length_append, List.length_singleton] at hl
  obtain ⟨v, e1, q⟩ := paired_get (i := xs.length) hv (by rw [List.getElem?_append_right (Nat.le_refl _), Nat.sub_self]; rfl)
  have hd := dropLast_paired hv
  rw [List.dropLast_concat] at hd
  refine mB_of mt_pop ⟨p, us, v, rfl, rfl, hH, by rw [hl]; exact e1, hk _ _ _ _ (b.setO ho hp hd) le_set (q.mono le_set) h⟩
theorem mo_reverse {i : Nat} {xs : List Sl} (ho : z.ob[i]? = some (.lst xs)) (h : Q (.sh .none) ⟨z.sl, z.ob.set i (.lst xs.reverse)⟩) : MO X "list.reverse" i [] z Q := fun c w σ p vs k b hp rr hk => by
  cases rr
  obtain ⟨_, us, hH, hv⟩ := b.ob i _ p ho hp
  exact mB_of mt_reverse ⟨p, us, rfl, rfl, hH, hk _ _ _ _ (b.setO ho hp (paired_rev hv)) le_set vN h⟩
theorem rExtR : MtM X "list.extend" (fun x vs H Q => ∃ l b xs zs, x = .ref l ∧ vs = [.ref b] ∧ H l = some (.lst xs) ∧ Rd H b (.lst zs) ∧ xs.length + zs.length ≤ sizeLine ∧ Q .non (upd H l (.lst (xs ++ zs)))) := by
  intro pins s σ H x vs v us Q I rx rv h
  obtain ⟨l, b, xs, zs, rfl, rfl, hH, hB, hz, q⟩ := h
  cases rx
  obtain ⟨u, rfl, ru⟩ := rv.one
  cases ru
  obtain ⟨z, its, n, r, hl, e⟩ := I.lstM hH
  obtain ⟨z2, its2, n2, r2, e2⟩ := hB.ok I.hok
  have hl2 := r2.length
  have hsz : its.toArray.size + its2.toArray.size ≤ sizeLine := by rw [List.size_toArray, List.size_toArray]; omega
  have hlong : ¬ (!its.toArray.isEmpty && Builtin.List.listTooLong (its.toArray.size + its2.toArray.size)) = true := by
    rw [notLongL hsz, Bool.and_false]
    exact Bool.false_ne_true
  refine call_meets F.slot_list_extend ⟨_, e, rfl⟩ F.entry_list_extend (F.args_list_extend_2 _ _)
    (AutoSeq1.list_extend_list_list_0 l its.toArray n b its2.toArray n2 hlong (by rw [List.size_toArray]; omega) (by omega)) ⟨e, e2, ?_⟩
  refine ⟨.non, _, I.lset (its' := its ++ its2) hH e (by simp) (r.append r2) ?_, rfl, q⟩
  rw [List.length_append]
  omega
theorem mo_extendF {i : Nat} {xs : List Sl} {ds : List PyData} (ho : z.ob[i]? = some (.lst xs)) (hl : xs.length + ds.length ≤ 100000) (h : Q (.sh .none) ⟨z.sl, z.ob.set i (.lst (xs ++ ds.map .sh))⟩) : MO X "list.extend" i [.sh (.list ds)] z Q := fun c w σ p vs k b hp rr hk => by
  obtain ⟨v, rfl, r⟩ := p1 rr
  obtain ⟨_, us, hH, hv⟩ := b.ob i _ p ho hp
  obtain ⟨q, zs, rfl, h1, s1⟩ := Dp_lstI r
  refine mB_of rExtR ⟨p, q, us, zs, rfl, rfl, hH, Same.rd b.same h1, ?_, hk _ _ _ _ (b.setO ho hp (paired_app hv (dp_allSh s1))) le_set vN h⟩
  rw [hv.length, DpAll_len s1]
  exact Nat.le_trans hl (by decide)
end
end Dl

namespace Dl
open PySem PySem.Spec L2
open PyProof.Rows hiding St

/-! ### stores -/
section
variable {X : Cx} {o i e : Expr} {z : Z} {pos tpos : Pos} {Q : Out → Prop}
theorem w1_setIx (h : WE X e z fun x z1 => WE X o z1 fun y z2 => WE X i z2 fun u z3 => ∃ n xs k j, y = .ob n ∧ z3.ob[n]? = some (.lst xs) ∧ u = .sh (.int k) ∧ ixN xs.length k = some j ∧ Q (.nx ⟨z3.sl, z3.ob.set n (.lst (xs.set j x))⟩))
    (ha : ∀ v, assign (.Subscript o i tpos) X.env v = (do
      let ov ← holding [v] (eval o X.env)
      let iv ← holding [v, ov] (eval i X.env)
      standAt tpos
      holding [v, ov, iv] (setItem ov iv v)
      release [v, ov, iv] []) := by intro _; rfl)
    (hs : swapsWithSole [.Subscript o i tpos] e pos.line X.env = pure false := by rfl) (hw : swappedStores [.Subscript o i tpos] e X.env = pure none := by rfl)
    (h1 : (assignEach [.Subscript o i tpos] X.env).map (·.2) = [assign (.Subscript o i tpos) X.env] := by rfl) : W1 X (.Assign [.Subscript o i tpos] e pos) z Q := fun c w σ D bb hk =>
  tS_of (ps_asg peB (pg_sub peB peB set_list ha) hs hw h1) (h c w σ _ bb fun v x w1 z1 b1 l1 r1 h1 => h1 c w1 σ _ b1 fun u y w2 z2 b2 l2 r2 h2 => h2 c w2 σ _ b2 fun t s w3 z3 b3 l3 r3 ⟨n, xs, kk, j, e1, ho, e2, hj, hq⟩ => by
    subst e1 e2
    obtain ⟨p, hp, rfl⟩ := r2.mono l3
    cases Dp_int r3
    obtain ⟨_, vs, hH, hv⟩ := b3.ob n _ p ho hp
    exact ⟨p, vs, kk, j, rfl, rfl, hH, by rw [hv.length]; exact hj, hk.nx _ σ _ (b3.setO ho hp (paired_set (r1.mono (l2.trans l3)) j hv)) (((l1.trans l2).trans l3).trans le_set) hq⟩)
/-- a, b = e: a tuple taken apart -/
theorem pgs_names : ∀ {is : List Nat} {ts : List Expr}, Paired (fun (i : Nat) (t : Expr) => PG X t (gName i) ∧ (∀ ts, assignEach (t :: ts) X.env = (false, assign t X.env) :: assignEach ts X.env)) is ts → PGs X ts (gNames is)
  | _, _, .nil => pgs_nil
  | _, _, .cons h t => pgs_cons h.1 (pgs_names t) (by rw [h.2]; rfl)
theorem w1_asgT {tg : Expr} {g : TG} {vs : List Nat} (hg : PG X tg g) (h : WE X e z fun x z1 => GD X.K vs g x z1 fun z2 => Q (.nx z2)) (hs : swapsWithSole [tg] e pos.line X.env = pure false := by rfl) (hw : swappedStores [tg] e X.env = pure none := by rfl)
    (h1 : (assignEach [tg] X.env).map (·.2) = [assign tg X.env] := by rfl) : W1 X (.Assign [tg] e pos) z Q := fun c w σ D bb hk =>
  tS_of (ps_asg peB hg hs hw h1) (h c w σ _ bb fun v x w1 z1 b1 l1 r1 hd => hd c w1 σ v _ b1 r1 fun w2 σ2 z2 b2 l2 _ hq => hk.nx w2 σ2 z2 b2 (l1.trans l2) hq)
/-- a, b = x, y -/
theorem w1_par {n m : Nat} {x y : Str} {a b : Expr} {px py pt : Pos} {kt k2 pt2} (hN : X.N.Nodup) (hi : X.N[n]? = some x) (hj : X.N[m]? = some y) (hij : n ≠ m)
    (h : WE X a z fun u z1 => WE X b z1 fun v z2 => Q (.nx ⟨(z2.sl.set n u).set m v, z2.ob⟩))
    (hw : swappedStores [.Tuple [.Name x px, .Name y py] kt pt] (.Tuple [a, b] k2 pt2) X.env = pure (some [x, y]) := by rfl)
    (hs : swapsWithSole [.Tuple [.Name x px, .Name y py] kt pt] (.Tuple [a, b] k2 pt2) pos.line X.env = pure false := by rfl)
    (hx : X.env.scope.names.lookup x = some .local := by rfl) (hy : X.env.scope.names.lookup y = some .local := by rfl) (hc : X.calm = true := by rfl)
    (he : starEach [a, b] X.env = (false, eval a X.env) :: starEach [b] X.env := by rfl) (he2 : starEach [b] X.env = (false, eval b X.env) :: starEach [] X.env := by rfl) :
    W1 X (.Assign [.Tuple [.Name x px, .Name y py] kt pt] (.Tuple [a, b] k2 pt2) pos) z Q := fun c w σ D bb hk =>
  tS_of (ps_par hc hN hi hj hij hx hy (pa_cons peB (pa_cons peB pa_nil he2) he) hw hs) (h c w σ _ bb fun v x w1 z1 b1 l1 r1 h1 => h1 c w1 σ _ b1 fun u y w2 z2 b2 l2 r2 hq =>
    ⟨v, u, rfl, hk.nx w2 _ _ ((b2.setSl (r1.mono l2)).setSl r2) (l1.trans l2) hq⟩)
end

/-! ### zip, tuples made on the way -/
section
variable {X : Cx} {e e2 : Expr} {z : Z} {pos p tpos : Pos} {elts : List Expr} {kk : Nat} {R : List Sl → (Z → Prop) → Z → Prop}
def zipD : List PyData → List PyData → List (List PyData)
  | a :: as, b :: bs => [a, b] :: zipD as bs
  | _, _ => []
theorem zipD_get : ∀ {as bs : List PyData} {i : Nat} {d : List PyData}, (zipD as bs)[i]? = some d → ∃ a b, as[i]? = some a ∧ bs[i]? = some b ∧ d = [a, b]
  | [], _, _, _, h => by simp [zipD] at h
  | _ :: _, [], _, _, h => by simp [zipD] at h
  | a :: as, b :: bs, 0, d, h => by
    simp only [zipD, List.getElem?_cons_zero, Option.some.injEq] at h
    exact ⟨a, b, rfl, rfl, h.symm⟩
  | a :: as, b :: bs, i + 1, d, h => by
    simp only [zipD, List.getElem?_cons_succ] at h
    obtain ⟨x, y, h1, h2, h3⟩ := zipD_get h
    exact ⟨x, y, by simpa using h1, by simpa using h2, h3⟩
theorem zipD_len : ∀ (as bs : List PyData), (zipD as bs).length = min as.length bs.length
  | [], _ => by simp [zipD]
  | _ :: _, [] => by simp [zipD]
  | a :: as, b :: bs => by
    simp only [zipD, List.length_cons, zipD_len as bs]
    omega
/-- two lists, or two tuples -/
inductive TwoSeq : Sl → Sl → List PyData → List PyData → Prop
  | ls (as bs : List PyData) : TwoSeq (.sh (.list as)) (.sh (.list bs)) as bs
  | ts (as bs : List PyData) : TwoSeq (.sh (.tuple as)) (.sh (.tuple bs)) as bs
theorem pair_new {K : PySem.W.Frag} {c : Ct} {w : Wd} {σ : St} {T : Addr} {x y : V} {a b : PyData} (bb : B K c w σ z) (hT : w.H T = none) (h1 : Dq K w.S x a) (h2 : Dq K w.S y b) :
    ∃ w', w'.H = upd w.H T (.tup [x, y]) ∧ B K c w' σ z ∧ w.Le w' ∧ Vl K w' (.ref T) (.tp [a, b]) := by
  have l : w.Le ⟨w.rho, upd w.S T (.tup [x, y]), upd w.H T (.tup [x, y])⟩ := le_new (bb.freshS hT)
  exact ⟨_, rfl, bb.newS hT, l, T, [x, y], rfl, .inl (.inl upd_same), .cons (Dp_mono l.st h1) (.cons (Dp_mono l.st h2) .nil)⟩
theorem wi_zip (hm : X.mg "zip" = none) (h : WE X e z fun x z1 => WE X e2 z1 fun y z2 => ∃ as bs, TwoSeq x y as bs ∧ R ((zipD as bs).map .tp) (fun _ => True) z2) (hg : Gl X "zip" := by rfl)
    (hs : starEach [e, e2] X.env = (false, eval e X.env) :: starEach [e2] X.env := by rfl) (hs2 : starEach [e2] X.env = (false, eval e2 X.env) :: starEach [] X.env := by rfl) (hpl : (backTo pos (starEach [e2] X.env)).any (·.1) = false := by rfl) :
    WI X (.Tuple elts kk tpos) (.Call (.Name "zip" p) [e, e2] [] pos) z R := fun c w σ k bb hk =>
  tI_of (RZ.pi_zipA hg hm (pa_cons peB (pa_cons peB pa_nil hs2) hs) hs hpl) (h c w σ _ bb fun v x w1 z1 b1 l1 r1 h1 => h1 c w1 σ _ b1 fun u y w2 z2 b2 l2 r2 ⟨as, bs, ht, hR⟩ => by
    have r1 := r1.mono l2
    have hlen : ((zipD as bs).map Sl.tp).length = min as.length bs.length := by rw [List.length_map, zipD_len]
    cases ht with
    | ls =>
      obtain ⟨a, xs, rfl, h1, s1⟩ := Dp_lstI r1
      obtain ⟨b, ys, rfl, h2, s2⟩ := Dp_lstI r2
      have e1 := DpAll_len s1
      have e2 := DpAll_len s2
      refine ⟨a, b, xs, ys, rfl, .inl ⟨.inl (Same.rd b2.same h1), .inl (Same.rd b2.same h2), hk _ _ _ w2 z2 b2 (l1.trans l2) ⟨fun i c' w3 σ3 z3 hi b3 l3 _ => ?_, fun c' w3 σ3 z3 b3 l3 _ => ?_, fun i c' w3 σ3 z3 x H' y hy b3 l3 _ hyl => ?_⟩ hR⟩⟩
      · rw [hlen] at hi
        exact ⟨xs, ys, xs[i]'(by omega), ys[i]'(by omega), .inl (Same.rd b3.same (Same.rd l3.st h1)), .inl (Same.rd b3.same (Same.rd l3.st h2)), List.getElem?_eq_getElem _, List.getElem?_eq_getElem _⟩
      · rw [hlen]
        exact ⟨xs, ys, .inl (Same.rd b3.same (Same.rd l3.st h1)), .inl (Same.rd b3.same (Same.rd l3.st h2)), by omega⟩
      · obtain ⟨T, x1, x2, rfl, hT, rfl, f1, f2⟩ := hyl
        rw [List.getElem?_map] at hy
        obtain ⟨d, hd, rfl⟩ := Option.map_eq_some_iff.mp hy
        obtain ⟨da, db, g1, g2, rfl⟩ := zipD_get hd
        obtain ⟨v1, q1, t1⟩ := paired_get (DqAll_paired s1) g1
        obtain ⟨v2, q2, t2⟩ := paired_get (DqAll_paired s2) g2
        have e3 := f1 xs (.inl (Same.rd b3.same (Same.rd l3.st h1)))
        have e4 := f2 ys (.inl (Same.rd b3.same (Same.rd l3.st h2)))
        rw [q1] at e3
        rw [q2] at e4
        cases e3
        cases e4
        exact pair_new b3 hT (Dp_mono l3.st t1) (Dp_mono l3.st t2)
    | ts =>
      obtain ⟨a, xs, rfl, h1, s1⟩ := Dp_tupI r1
      obtain ⟨b, ys, rfl, h2, s2⟩ := Dp_tupI r2
      have e1 := DpAll_len s1
      have e2 := DpAll_len s2
      refine ⟨a, b, xs, ys, rfl, .inr ⟨Same.tup b2.same h1, Same.tup b2.same h2, hk _ _ _ w2 z2 b2 (l1.trans l2) ⟨fun i c' w3 σ3 z3 hi b3 l3 _ => ?_, fun c' w3 σ3 z3 b3 l3 _ => ?_, fun i c' w3 σ3 z3 x H' y hy b3 l3 _ hyl => ?_⟩ hR⟩⟩
      · rw [hlen] at hi
        exact ⟨xs, ys, xs[i]'(by omega), ys[i]'(by omega), Same.tup b3.same (Same.tup l3.st h1), Same.tup b3.same (Same.tup l3.st h2), List.getElem?_eq_getElem _, List.getElem?_eq_getElem _⟩
      · rw [hlen]
        exact ⟨xs, ys, Same.tup b3.same (Same.tup l3.st h1), Same.tup b3.same (Same.tup l3.st h2), by omega⟩
      · obtain ⟨T, x1, x2, rfl, hT, rfl, f1, f2⟩ := hyl
        rw [List.getElem?_map] at hy
        obtain ⟨d, hd, rfl⟩ := Option.map_eq_some_iff.mp hy
        obtain ⟨da, db, g1, g2, rfl⟩ := zipD_get hd
        obtain ⟨v1, q1, t1⟩ := paired_get (DqAll_paired s1) g1
        obtain ⟨v2, q2, t2⟩ := paired_get (DqAll_paired s2) g2
        have e3 := f1 xs (Same.tup b3.same (Same.tup l3.st h1))
        have e4 := f2 ys (Same.tup b3.same (Same.tup l3.st h2))
        rw [q1] at e3
        rw [q2] at e4
        cases e3
        cases e4
        exact pair_new b3 hT (Dp_mono l3.st t1) (Dp_mono l3.st t2))
end

/-! ### the box that is drawn from -/
structure Bx where
  a : Int
  s : Int
  c : Int
def Bx.ds (b : Bx) : List PyData := [.int b.a, .int b.s, .int b.c]
def Bx.o (b : Bx) : OO := .lst [.sh (.int b.a), .sh (.int b.s), .sh (.int b.c)]
structure Bx.Ok (b : Bx) (n : Nat) : Prop where
  a0 : 0 ≤ b.a
  s0 : 0 ≤ b.s
  s1 : b.s < 1099511627776
  c0 : 0 ≤ b.c
  c1 : b.c + (n : Int) ≤ 1099511627776
theorem Bx.Ok.mono {b : Bx} {n m : Nat} (h : b.Ok n) (l : m ≤ n) : b.Ok m := ⟨h.a0, h.s0, h.s1, h.c0, by have := h.c1; omega⟩
/-- behind at most n draws -/
structure Bx.Le (b b' : Bx) (n : Nat) : Prop where
  ok : b'.Ok 0
  le : b'.c ≤ b.c + (n : Int)
theorem Bx.Le.trans {b b1 b2 : Bx} {n m : Nat} (h : b.Le b1 n) (k : b1.Le b2 m) : b.Le b2 (n + m) := ⟨k.ok, by have := h.le; have := k.le; omega⟩
theorem Bx.Le.mono {b b1 : Bx} {n m : Nat} (h : b.Le b1 n) (k : n ≤ m) : b.Le b1 m := ⟨h.ok, by have := h.le; omega⟩
theorem Bx.Ok.after {b b' : Bx} {n m k : Nat} (h : b.Ok n) (l : b.Le b' m) (hk : m + k ≤ n) : b'.Ok k := ⟨l.ok.a0, l.ok.s0, l.ok.s1, l.ok.c0, by have := h.c1; have := l.le; omega⟩
/-- a box first, then data: by what is asked of the data, how many draws, what is told -/
def BoxD (Pre : List PyData → Prop) (cost : List PyData → Nat) (Post : List PyData → PyData → Prop) : Rl := fun xs om Q => ∃ (b : Bx) (ds : List PyData), xs = .ob 0 :: ds.map .sh ∧ om = [b.o] ∧ b.Ok (cost ds) ∧ Pre ds ∧
  ∀ d b', Post ds d → b.Le b' (cost ds) → Q (.sh d) [b'.o]
section
variable {X : Cx} {x : Str} {p pos : Pos} {e : Expr} {es : List Expr} {z : Z} {Q : Sl → Z → Prop} {k kk : Nat} {ps : List Str}
theorem Bx.allSh (b : Bx) : Dl.allSh [.sh (.int b.a), .sh (.int b.s), .sh (.int b.c)] = some b.ds := rfl
theorem we_callX {Pre : List PyData → Prop} {cost : List PyData → Nat} {Post : List PyData → PyData → Prop} (G : Df X.prog X.w X.K X.mg X.base x k ps (BoxD Pre cost Post)) (hr : RoomG kk X.A) (hle : k ≤ kk)
    (h : WA X (e :: es) z fun xs z1 => ∃ i ys ds b, xs = .ob i :: ys ∧ Dl.allSh ys = some ds ∧ z1.ob[i]? = some (Bx.o b) ∧ b.Ok (cost ds) ∧ Pre ds ∧ xs.length = ps.length ∧ ∀ d b', Post ds d → b.Le b' (cost ds) → Q (.sh d) ⟨z1.sl, z1.ob.set i b'.o⟩)
    (hg : Gl X x := by rfl) (hd : (x == ("__debug__" : Str)) = false := by decide) (he : starEach (e :: es) X.env = (false, eval e X.env) :: starEach es X.env := by rfl)
    (hpl : (backTo pos (starEach es X.env)).any (·.1) = false := by rfl) : WE X (.Call (.Name x p) (e :: es) [] pos) z Q := by
  obtain ⟨f, fd, G, hm, hk, hb⟩ := G.ex
  refine fun c w σ kk bb hkk => tE_of (pe_callG G (hr.mono hle) hg hm hk hb pass0x paB hd he hpl) (h c w σ _ bb fun vs xs w1 z1 b1 l1 hv ⟨i, ys, ds, bx, e1, hx, ho, hok, hP, hn, hQ⟩ => ?_)
  subst e1
  rw [List.append_nil]
  have hk2 := hkk.le l1
  cases hv with
  | cons h1 ht =>
    obtain ⟨q, hp, rfl⟩ := h1
    refine ⟨by rw [List.length_cons, ht.length]; exact hn, ⟨[q], w1.S, w1.H⟩, .ob 0 :: ys, [bx.o], fun y om => ∃ d b', Post ds d ∧ bx.Le b' (cost ds) ∧ y = .sh d ∧ om = [b'.o], rfl, b1.ent1 hp ho bx.allSh, .cons ⟨q, rfl, rfl⟩ ?_,
      ⟨bx, ds, by rw [allSh_eq hx], rfl, hok, hP, fun d b' h1 h2 => ⟨d, b', h1, h2, rfl, rfl⟩⟩, fun y om' v w' hq b' r => ?_⟩
    · rw [allSh_eq hx]
      exact dp_allSh (w := ⟨[q], w1.S, w1.H⟩) (allSh_dp (w := w1) hx ht)
    · obtain ⟨d, b3, hPo, hLe, rfl, rfl⟩ := hq
      obtain ⟨b2, l⟩ := b1.back1 hp b'
      refine hk2 v (.sh d) ⟨w1.rho ++ w'.rho.drop 1, w'.S, w'.H⟩ _ ?_ l r (hQ d b3 hPo hLe)
      have : z1.ob.set i (mpO1 i z1.ob.length b3.o) ++ ([] : List OO).map (mpO1 i z1.ob.length) = z1.ob.set i b3.o := by
        show z1.ob.set i b3.o ++ [] = _
        rw [List.append_nil]
      rw [this] at b2
      exact b2
end
end Dl

namespace Dl
open PySem PySem.Spec L2
open PyProof.Rows hiding St

/-! ### names by facts that are shown once -/
structure Nm (X : Cx) (x : Str) (i : Nat) : Prop where
  n : X.N[i]? = some x
  v : Vis X.env.scope x
  d : (x == ("__debug__" : Str)) = false
  c : (x == ("__classdict__" : Str)) = false
structure Ns (X : Cx) (x : Str) (i : Nat) : Prop where
  nd : X.N.Nodup
  n : X.N[i]? = some x
  l : Loc X.env.scope x
  f : X.fn x = true ∨ X.env.scope.names.lookup x = some .local
structure Gn (X : Cx) (x : Str) : Prop where
  g : Gl X x
  d : (x == ("__debug__" : Str)) = false
  n : x ≠ "__name__"
def nkB (o : Option NameKind) (k : NameKind) : Bool := match o, k with
  | some .local, .local => true
  | some .cell, .cell => true
  | some .free, .free => true
  | some .globalImplicit, .globalImplicit => true
  | _, _ => false
theorem nkB_eq {o : Option NameKind} {k : NameKind} (h : nkB o k = true) : o = some k := by
  unfold nkB at h
  split at h <;> first | rfl | cases h
def nmB (N : List Str) (sc : Scope) (p : Str × Nat) : Bool := decide (N[p.2]? = some p.1) && (nkB (sc.names.lookup p.1) .local || nkB (sc.names.lookup p.1) .cell || nkB (sc.names.lookup p.1) .free) && !(p.1 == ("__debug__" : Str)) && !(p.1 == ("__classdict__" : Str))
def nsB (N : List Str) (sc : Scope) (p : Str × Nat) : Bool := decide (N[p.2]? = some p.1) && (nkB (sc.names.lookup p.1) .local || nkB (sc.names.lookup p.1) .cell)
def gnB (sc : Scope) (x : Str) : Bool := nkB (sc.names.lookup x) .globalImplicit && !(x == ("__debug__" : Str)) && !decide (x = ("__name__" : Str))
section
variable {X : Cx} {N : List Str} {sc : Scope} {x : Str} {i : Nat}
theorem nm_of (eN : X.N = N) (es : X.env.scope = sc) (h : nmB N sc (x, i) = true) : Nm X x i := by
  unfold nmB at h
  simp only [Bool.and_eq_true, Bool.or_eq_true, decide_eq_true_eq, Bool.not_eq_true'] at h
  obtain ⟨⟨⟨h1, h2⟩, h3⟩, h4⟩ := h
  refine ⟨by rw [eN]; exact h1, ?_, h3, h4⟩
  rw [es]
  rcases h2 with (h | h) | h
  · exact .inl (nkB_eq h)
  · exact .inr (.inl (nkB_eq h))
  · exact .inr (.inr (nkB_eq h))
theorem ns_of (eN : X.N = N) (es : X.env.scope = sc) (nd : N.Nodup) (hf : ∀ y, X.fn y = true) (h : nsB N sc (x, i) = true) : Ns X x i := by
  unfold nsB at h
  simp only [Bool.and_eq_true, Bool.or_eq_true, decide_eq_true_eq] at h
  obtain ⟨h1, h2⟩ := h
  refine ⟨by rw [eN]; exact nd, by rw [eN]; exact h1, ?_, .inl (hf x)⟩
  rw [es]
  rcases h2 with h | h
  · exact .inl (nkB_eq h)
  · exact .inr (nkB_eq h)
theorem gn_of (es : X.env.scope = sc) (h : gnB sc x = true) : Gn X x := by
  unfold gnB at h
  simp only [Bool.and_eq_true, Bool.not_eq_true', decide_eq_false_iff_not] at h
  obtain ⟨⟨h1, h2⟩, h3⟩ := h
  refine ⟨?_, h2, h3⟩
  show X.env.kindOf x = some .globalImplicit
  have : X.env.kindOf x = X.env.scope.names.lookup x := rfl
  rw [this, es]
  exact nkB_eq h1
def Nms (X : Cx) : List (Str × Nat) → Prop
  | [] => True
  | p :: r => Nm X p.1 p.2 ∧ Nms X r
def Nss (X : Cx) : List (Str × Nat) → Prop
  | [] => True
  | p :: r => Ns X p.1 p.2 ∧ Nss X r
def Gns (X : Cx) : List Str → Prop
  | [] => True
  | p :: r => Gn X p ∧ Gns X r
theorem nms_of (eN : X.N = N) (es : X.env.scope = sc) : ∀ {l : List (Str × Nat)}, l.all (nmB N sc) = true → Nms X l
  | [], _ => trivial
  | p :: r, h => by
    rw [List.all_cons, Bool.and_eq_true] at h
    exact ⟨nm_of eN es h.1, nms_of eN es h.2⟩
theorem nss_of (eN : X.N = N) (es : X.env.scope = sc) (nd : N.Nodup) (hf : ∀ y, X.fn y = true) : ∀ {l : List (Str × Nat)}, l.all (nsB N sc) = true → Nss X l
  | [], _ => trivial
  | p :: r, h => by
    rw [List.all_cons, Bool.and_eq_true] at h
    exact ⟨ns_of eN es nd hf h.1, nss_of eN es nd hf h.2⟩
theorem gns_of (es : X.env.scope = sc) : ∀ {l : List Str}, l.all (gnB sc) = true → Gns X l
  | [], _ => trivial
  | p :: r, h => by
    rw [List.all_cons, Bool.and_eq_true] at h
    exact ⟨gn_of es h.1, gns_of es h.2⟩
end
def Sl.nn : Sl → Bool
  | .no => false
  | _ => true
theorem Sl.nn_ne {s : Sl} (h : s.nn = true) : s ≠ .no := by
  intro e
  subst e
  cases h
section
variable {X : Cx} {e : Expr} {es : List Expr} {z : Z} {pos p : Pos} {Q : Sl → Z → Prop} {x : Str} {i k kk : Nat} {ps : List Str}
theorem we_nm {s : Sl} (n : Nm X x i) (hs : z.sl[i]? = some s) (hx : s.nn = true) (h : Q s z) : WE X (.Name x pos) z Q := we_var n.n n.v hs (Sl.nn_ne hx) h n.d n.c
theorem w1_ns {P : Out → Prop} {pos' : Pos} (n : Ns X x i) (hs : swapsWith e (some (.Name x pos')) pos.line X.env = pure false) (h : WE X e z fun y z1 => P (.nx ⟨z1.sl.set i y, z1.ob⟩)) : W1 X (.Assign [.Name x pos'] e pos) z P := w1_set n.nd n.n n.l h hs n.f
/-- a built-in as this def sees it -/
structure Bi (X : Cx) (x : Str) (id : String) : Prop where
  g : Gn X x
  m : X.mg x = none
  v : bootBuiltins x = some (.builtin id)
structure Bt (X : Cx) (x : Str) (id : String) : Prop where
  g : Gn X x
  m : X.mg x = none
  v : bootBuiltins x = some (.type id)
theorem we_bi' {id : String} (b : Bi X x id) (h : WA X (e :: es) z fun xs z1 => CD X (.builtin id) xs z1 Q) (he : starEach (e :: es) X.env = (false, eval e X.env) :: starEach es X.env) (hpl : (backTo pos (starEach es X.env)).any (·.1) = false) : WE X (.Call (.Name x p) (e :: es) [] pos) z Q := we_bi b.m b.v h b.g.g b.g.n b.g.d he hpl
theorem we_ty' {id : String} (b : Bt X x id) (h : WA X (e :: es) z fun xs z1 => CD X (.type id) xs z1 Q) (he : starEach (e :: es) X.env = (false, eval e X.env) :: starEach es X.env) (hpl : (backTo pos (starEach es X.env)).any (·.1) = false) : WE X (.Call (.Name x p) (e :: es) [] pos) z Q := we_ty b.m b.v h b.g.g b.g.n b.g.d he hpl
theorem we_isi' {a : Expr} {t : Str} {T : String} {pt : Pos} (b : Bi X "isinstance" "isinstance") (bt : Bt X t T) (h : WE X a z fun y z1 => ∃ r, Isi y z1 T r ∧ Q (.sh (.bool r)) z1)
    (he : starEach [a, .Name t pt] X.env = (false, eval a X.env) :: starEach [.Name t pt] X.env) (he2 : starEach [.Name t pt] X.env = (false, eval (.Name t pt) X.env) :: starEach [] X.env) (hpl : (backTo pos (starEach [.Name t pt] X.env)).any (·.1) = false) :
    WE X (.Call (.Name "isinstance" p) [a, .Name t pt] [] pos) z Q := we_isi (Ps := fun _ => True) b.m bt.m bt.v h b.g.g bt.g.g bt.g.n bt.g.d he he2 hpl
theorem we_isi2' {a : Expr} {t u : Str} {T U : String} {pt pu ptt : Pos} {x1} (b : Bi X "isinstance" "isinstance") (bt : Bt X t T) (bu : Bt X u U) (h : WE X a z fun y z1 => ∃ r r', Isi y z1 T r ∧ Isi y z1 U r' ∧ Q (.sh (.bool (r || r'))) z1)
    (he : starEach [a, .Tuple [.Name t pt, .Name u pu] x1 ptt] X.env = (false, eval a X.env) :: starEach [.Tuple [.Name t pt, .Name u pu] x1 ptt] X.env)
    (he2 : starEach [.Tuple [.Name t pt, .Name u pu] x1 ptt] X.env = (false, eval (.Tuple [.Name t pt, .Name u pu] x1 ptt) X.env) :: starEach [] X.env)
    (he3 : starEach [.Name t pt, .Name u pu] X.env = (false, eval (.Name t pt) X.env) :: starEach [.Name u pu] X.env) (he4 : starEach [.Name u pu] X.env = (false, eval (.Name u pu) X.env) :: starEach [] X.env)
    (hpl : (backTo pos (starEach [.Tuple [.Name t pt, .Name u pu] x1 ptt] X.env)).any (·.1) = false) :
    WE X (.Call (.Name "isinstance" p) [a, .Tuple [.Name t pt, .Name u pu] x1 ptt] [] pos) z Q := we_isi2 b.m bt.m bt.v bu.m bu.v h b.g.g bt.g.g bu.g.g bt.g.n bt.g.d bu.g.n bu.g.d he he2 he3 he4 hpl
/-- a def as this def sees it, and the room -/
structure Cf (X : Cx) (x : Str) (k : Nat) (ps : List Str) (R : Rl) : Prop where
  g : Gn X x
  d : Df X.prog X.w X.K X.mg X.base x k ps R
theorem we_cP {F : List PyData → PyData → Prop} (c : Cf X x k ps (PureR F)) (hr : RoomG kk X.A) (hle : k ≤ kk) (h : WA X (e :: es) z fun xs z1 => ∃ ds d, allSh xs = some ds ∧ F ds d ∧ xs.length = ps.length ∧ Q (.sh d) z1)
    (he : starEach (e :: es) X.env = (false, eval e X.env) :: starEach es X.env) (hpl : (backTo pos (starEach es X.env)).any (·.1) = false) : WE X (.Call (.Name x p) (e :: es) [] pos) z Q := we_callP c.d hr hle h c.g.g c.g.d he hpl
theorem we_cN {F : List PyData → List PyData → Prop} (c : Cf X x k ps (NewR F)) (hr : RoomG kk X.A) (hle : k ≤ kk) (h : WA X (e :: es) z fun xs z1 => ∃ ds d, allSh xs = some ds ∧ F ds d ∧ xs.length = ps.length ∧ Q (.ob z1.ob.length) ⟨z1.sl, z1.ob ++ [.lst (d.map .sh)]⟩)
    (he : starEach (e :: es) X.env = (false, eval e X.env) :: starEach es X.env) (hpl : (backTo pos (starEach es X.env)).any (·.1) = false) : WE X (.Call (.Name x p) (e :: es) [] pos) z Q := we_callN c.d hr hle h c.g.g c.g.d he hpl
theorem we_cX {Pre : List PyData → Prop} {cost : List PyData → Nat} {Post : List PyData → PyData → Prop} (c : Cf X x k ps (BoxD Pre cost Post)) (hr : RoomG kk X.A) (hle : k ≤ kk)
    (h : WA X (e :: es) z fun xs z1 => ∃ i ys ds b, xs = .ob i :: ys ∧ Dl.allSh ys = some ds ∧ z1.ob[i]? = some (Bx.o b) ∧ b.Ok (cost ds) ∧ Pre ds ∧ xs.length = ps.length ∧ ∀ d b', Post ds d → b.Le b' (cost ds) → Q (.sh d) ⟨z1.sl, z1.ob.set i b'.o⟩)
    (he : starEach (e :: es) X.env = (false, eval e X.env) :: starEach es X.env) (hpl : (backTo pos (starEach es X.env)).any (·.1) = false) : WE X (.Call (.Name x p) (e :: es) [] pos) z Q := we_callX c.d hr hle h c.g.g c.g.d he hpl
end
theorem fin_sh {n : Nat} {Qd : Sl → List OO → Prop} {d : PyData} {z : Z} (hr : (z.ob.take n).all (rlO n) = true) (h : Qd (.sh d) (z.ob.take n)) : Fin n Qd (.rt (.sh d) z) := ⟨_, _, .sh d _ hr, h⟩
theorem fin_new {n k : Nat} {Qd : Sl → List OO → Prop} {xs : List Sl} {z : Z} (hk : n ≤ k) (ho : z.ob[k]? = some (.lst xs)) (hr : (z.ob.take n).all (rlO n) = true) (hx : xs.all (rlS n) = true) (h : Qd (.ob n) (z.ob.take n ++ [.lst xs])) : Fin n Qd (.rt (.ob k) z) := ⟨_, _, .new k xs _ hk ho hr hx, h⟩
theorem fin_frz {n k : Nat} {Qd : Sl → List OO → Prop} {xs : List Sl} {ds : List PyData} {z : Z} (hk : n ≤ k) (ho : z.ob[k]? = some (.lst xs)) (hr : (z.ob.take n).all (rlO n) = true) (hx : allSh xs = some ds) (h : Qd (.sh (.list ds)) (z.ob.take n)) : Fin n Qd (.rt (.ob k) z) := ⟨_, _, .frz k xs ds _ hk ho hr hx, h⟩
end Dl

namespace Dl
open PySem PySem.Spec L2
open PyProof.Rows hiding St

/-! ### a def's context as a letter -/
structure Good (X : Cx) (P : Program) (w : World) (K : PySem.W.Frag) (mg : Str → Option Value) (base : Heap) (N : List Str) (sc : Scope) (k : Nat) : Prop where
  prog : X.prog = P
  w : X.w = w
  K : X.K = K
  mg : X.mg = mg
  base : X.base = base
  N : X.N = N
  sc : X.env.scope = sc
  calm : X.calm = true
  po : PassesOwn (model X.prog X.w) X.A X.env X.xe
  room : RoomG k X.A
  knd : X.env.scope.kind = .function
  fn : ∀ y, X.fn y = true
  nd : X.N.Nodup
def relS (scope sc : Scope) : Scope := { scope with names := scope.names.map fun (n, k) => if (k == NameKind.free && sc.kind == .function && sc.names.lookup n == some .cell) then (n, NameKind.cell) else (n, k) }
theorem relS_eq {scope : Scope} {env : Env} : relabel scope env = relS scope env.scope := rfl
section
variable {P : Program} {w : World} {K : PySem.W.Frag} {mg : Str → Option Value} {base : Heap}
theorem fn_okN {x qual : Str} {st : Stmt} {f : Addr} {fd : FuncData} {N ps : List Str} {k : Nat} {R : Rl} {l l2 : List (Str × Nat)} {gl : List Str} (F : Fun K x qual st f fd) (S : FnScope N ps (defScope st))
    (nm : l.all (nmB N (defScope st)) = true) (ns : l2.all (nsB N (defScope st)) = true) (gn : gl.all (gnB (defScope st)) = true)
    (h : ∀ X : Cx, Good X P w K mg base N (defScope st) k → Nms X l → Nss X l2 → Gns X gl → ∀ xs om Qd, xs.length = ps.length → R xs om Qd →
      WS X (defBody st) ⟨xs ++ List.replicate (N.length - xs.length) .no, om⟩ (Fin om.length Qd)) : FnG P w K mg base CX0 (k + 1) f fd ps (spD K ps.length R) := by
  refine fn_ok F S (fun cdv A outer s H E hr xs om Qd hl hR => ?_)
  exact h _ ⟨rfl, rfl, rfl, rfl, rfl, rfl, rfl, rfl, PassesOwn.never, hr, S.kind, fun _ => rfl, S.nd⟩ (nms_of rfl rfl nm) (nss_of rfl rfl S.nd (fun _ => rfl) ns) (gns_of rfl gn) xs om Qd hl hR
variable {X : Cx} {N : List Str} {sc : Scope} {k : Nat}
theorem Good.cf (g : Good X P w K mg base N sc k) {x : Str} {j : Nat} {ps : List Str} {R : Rl} (h : Gn X x) (d : Df P w K mg base x j ps R) : Cf X x j ps R := by
  refine ⟨h, ?_⟩
  rw [g.prog, g.w, g.K, g.mg, g.base]
  exact d
theorem Good.bi (g : Good X P w K mg base N sc k) {x : Str} {id : String} (h : Gn X x) (hm : mg x = none) (hv : bootBuiltins x = some (.builtin id)) : Bi X x id := ⟨h, by rw [g.mg]; exact hm, hv⟩
theorem Good.bt (g : Good X P w K mg base N sc k) {x : Str} {id : String} (h : Gn X x) (hm : mg x = none) (hv : bootBuiltins x = some (.type id)) : Bt X x id := ⟨h, by rw [g.mg]; exact hm, hv⟩
theorem Good.blk (g : Good X P w K mg base N sc k) {scope : Scope} {own : List (Str × Nat)} (h : blkC N sc scope own = true) : BlkOk X.N X.env.scope scope own := by
  rw [g.N, g.sc]
  exact blkOk_by h
/-- within a comprehension -/
theorem Good.bnm (g : Good X P w K mg base N sc k) {scope : Scope} {s : Shared} {H : Hp} {C : Addr} {cl : List (Str × Addr)} {fp : List Addr} {l : List (Str × Nat)} (h : l.all (nmB N (relS scope sc)) = true) : Nms (Blk X scope s H C cl fp) l := nms_of (X := Blk X scope s H C cl fp) (sc := relS scope sc) g.N (by rw [← g.sc]; rfl) h
theorem Good.bgn (g : Good X P w K mg base N sc k) {scope : Scope} {s : Shared} {H : Hp} {C : Addr} {cl : List (Str × Addr)} {fp : List Addr} {l : List Str} (h : l.all (gnB (relS scope sc)) = true) : Gns (Blk X scope s H C cl fp) l := gns_of (X := Blk X scope s H C cl fp) (sc := relS scope sc) (by rw [← g.sc]; rfl) h
theorem Good.bcf (g : Good X P w K mg base N sc k) {scope : Scope} {s : Shared} {H : Hp} {C : Addr} {cl : List (Str × Addr)} {fp : List Addr} {x : Str} {j : Nat} {ps : List Str} {R : Rl} (h : Gn (Blk X scope s H C cl fp) x) (d : Df P w K mg base x j ps R) : Cf (Blk X scope s H C cl fp) x j ps R := by
  refine ⟨h, ?_⟩
  show Df X.prog X.w X.K X.mg X.base x j ps R
  rw [g.prog, g.w, g.K, g.mg, g.base]
  exact d
theorem Good.bbi (g : Good X P w K mg base N sc k) {scope : Scope} {s : Shared} {H : Hp} {C : Addr} {cl : List (Str × Addr)} {fp : List Addr} {x : Str} {id : String} (h : Gn (Blk X scope s H C cl fp) x) (hm : mg x = none) (hv : bootBuiltins x = some (.builtin id)) : Bi (Blk X scope s H C cl fp) x id := ⟨h, by
  show X.mg x = none
  rw [g.mg]
  exact hm, hv⟩
theorem Good.bbt (g : Good X P w K mg base N sc k) {scope : Scope} {s : Shared} {H : Hp} {C : Addr} {cl : List (Str × Addr)} {fp : List Addr} {x : Str} {id : String} (h : Gn (Blk X scope s H C cl fp) x) (hm : mg x = none) (hv : bootBuiltins x = some (.type id)) : Bt (Blk X scope s H C cl fp) x id := ⟨h, by
  show X.mg x = none
  rw [g.mg]
  exact hm, hv⟩
/-- the target of a for, of a comprehension: a name -/
theorem pgN {x : Str} {i : Nat} {pos : Pos} (n : Ns X x i) : PG X (.Name x pos) (gName i) := pg_name n.nd n.n n.l n.f
theorem Good.bpg (g : Good X P w K mg base N sc k) {scope : Scope} {s : Shared} {H : Hp} {C : Addr} {cl : List (Str × Addr)} {fp : List Addr} {x : Str} {i : Nat} {pos : Pos} (h : (decide (N[i]? = some x) && nkB ((relS scope sc).names.lookup x) .local) = true) : PG (Blk X scope s H C cl fp) (.Name x pos) (gName i) := by
  rw [Bool.and_eq_true, decide_eq_true_eq] at h
  have e := nkB_eq h.2
  rw [← g.sc] at e
  exact pg_name (X := Blk X scope s H C cl fp) (show X.N.Nodup from g.nd) (show X.N[i]? = some x by rw [g.N]; exact h.1) (.inl e) (.inr e)
end
/-- a, b = x, y: the stores' order -/
theorem swap2 {X : Cx} {x y : Str} {a b : Expr} {px py pt : Pos} {kt k2 pt2} (hk : X.env.scope.kind = .function) (hx : X.env.scope.names.lookup x = some .local) (hy : X.env.scope.names.lookup y = some .local) (hxy : (x == y) = false)
    (hl : (px.line == px.line) = true := by rfl) (hl2 : (py.line == px.line) = true := by rfl) (hs : ([a, b].any fun | .Starred .. => true | _ => false) = false := by rfl) (h1 : [a, b].all (foldedForSure 8) = false := by rfl) (h2 : [a, b].all (constantsAlone 8) = false := by rfl) :
    swappedStores [.Tuple [.Name x px, .Name y py] kt pt] (.Tuple [a, b] k2 pt2) X.env = pure (some [x, y]) := by
  have kx : X.env.kindOf x = some .local := hx
  have ky : X.env.kindOf y = some .local := hy
  have hb : X.env.blockKind = .function := by unfold Env.blockKind; rw [hk]; rfl
  have hyx : (y == x) = false := by
    rw [← hxy]
    exact Bool.beq_comm (a := y) (b := x) ▸ rfl
  unfold swappedStores
  simp only [hb, kx, ky, hl, hl2, h1, h2, hs, List.head?, Option.map, Option.getD, Expr.pos, List.filterMap, List.length]
  simp [hxy, hyx, List.eraseDups, List.eraseDupsBy, List.eraseDupsBy.loop, kx, ky, hl, hl2]
  intro h
  rw [List.any_cons, List.any_cons, Bool.or_eq_false_iff, Bool.or_eq_false_iff] at hs
  rcases h with h | h
  · exact absurd (h.symm.trans hs.1) (by simp)
  · exact absurd (h.symm.trans hs.2.1) (by simp)
end Dl

namespace Dl
open PySem PySem.Spec L2
open PyProof.Rows hiding St

/-! ### slices with a step -/
section
variable {prog : Program} {w : World} {A : Around} {E : Value → Shared → Prop} {s : Shared}
theorem sliceApplied_c {sl : Addr} {vl vu vc : Value} {lo hi : Option Int} {c : Int} {n : Nat} {Q : Int × Int × Nat → Shared → Prop} (hs : s.heap.IsSliceOf sl vl vu vc) (pl : IsPart vl lo) (pu : IsPart vu hi) (pc : IsPart vc (some c)) (hc : (c == 0) = false)
    (h : Q ((Builtin.Slice.sliceAdjust lo hi c n).1, c, Builtin.Slice.slicePlaces (Builtin.Slice.sliceAdjust lo hi c n).1 (Builtin.Slice.sliceAdjust lo hi c n).2 c) s) : wpAny (model prog w) A (Builtin.Slice.sliceApplied (.ref sl) (pure (n : Int))) Q E s := by
  obtain ⟨os, hos, hcs, hds⟩ := id hs
  unfold Builtin.Slice.sliceApplied Builtin.Slice.sliceFields
  refine wpAny_bind (wpAny_bind (wpAny_field hos hds (x := vl) rfl (wpAny_bind (wpAny_field hos hds (x := vu) rfl (wpAny_bind (wpAny_field hos hds (x := vc) rfl (wpAny_pure ?_)))))))
  refine wpAny_bind (HT.slicePart_ pc ?_)
  show wpAny _ _ (if (c == 0) = true then _ else _) _ _ s
  rw [if_neg (by rw [hc]; exact Bool.false_ne_true)]
  exact wpAny_bind (HT.slicePart_ pl (wpAny_bind (HT.slicePart_ pu (wpAny_bind (wpAny_pure (wpAny_pure h))))))
def pickC {α : Type} (xs : List α) (a c : Int) (n : Nat) : List α := (List.range n).filterMap fun (k : Nat) => xs[(a + (k : Int) * c).toNat]?
theorem getItem_tuple_c {t sl : Addr} {items : Array Value} {vl vu vc : Value} {lo hi : Option Int} {c : Int} {Q : Value → Shared → Prop} (ht : IsTup s.heap t items) (hs : s.heap.IsSliceOf sl vl vu vc) (pl : IsPart vl lo) (pu : IsPart vu hi) (pc : IsPart vc (some c)) (hc : (c == 0) = false) (hc1 : (c == 1) = false)
    {a : Int} {n : Nat} (ea : Builtin.Slice.sliceAdjust lo hi c items.size = (a, (Builtin.Slice.sliceAdjust lo hi c items.size).2)) (en : Builtin.Slice.slicePlaces (Builtin.Slice.sliceAdjust lo hi c items.size).1 (Builtin.Slice.sliceAdjust lo hi c items.size).2 c = n) (hn : n ≤ sizeLine)
    (h : Q (.ref s.heap.objs.size) { s with heap := s.heap.push { cls := .type "tuple", data := .seq (pickC items.toList a c n).toArray } }) : wpAny (model prog w) A (getItem (.ref t) (.ref sl)) Q E s := by
  have hlen : ∀ (m : Nat), (pickC items.toList a c m).length ≤ m := fun m => by
    unfold pickC
    exact Nat.le_trans (List.length_filterMap_le _ _) (by simp)
  have htake : sizeOk (.seq (pickC items.toList a c n).toArray) := by
    show (pickC items.toList a c n).toArray.size ≤ sizeLine
    rw [List.size_toArray]
    exact Nat.le_trans (hlen n) hn
  obtain ⟨os, hos, hcs, hds⟩ := id hs
  have hTs : s.TypeIs (.ref sl) "slice" := ⟨os, hos, hcs⟩
  have ea1 : (Builtin.Slice.sliceAdjust lo hi c items.size).1 = a := by rw [ea]
  unfold getItem
  try with_reducible refine wpAny_holding ?_
  first | refine wpAny_bind (wpAny_pure ?_) | skip
  refine wpAny_bind (wpAny_sequenceKey ht.typeIs (by decide) ?_)
  refine wpAny_bind (wpAny_callSpecial?_slot (name := Str.ofString "__getitem__") ht.typeIs PyProof.Rows.slot_tuple_getitem
    (wpAny_call_entry PyProof.Rows.slot_tuple_getitem ht.typeIs entry_tuple_getitem ?_ (args_tuple_getitem _ _)))
  show wpAny _ _ (Builtin.Tuple.tupleItemsOf (.ref t) >>= _) _ _ s
  refine wpAny_bind (tupleItemsOf_ ht ?_)
  refine wpAny_bind (wpAny_typeOf hTs ?_)
  rw [if_pos (by decide)]
  refine wpAny_bind (sliceApplied_c hs pl pu pc hc ?_)
  rw [en, ea1]
  show wpAny _ _ (if ((a == 0) && (c == 1) && (n == items.size)) = true then _ else _) _ _ s
  rw [hc1, Bool.and_false, Bool.false_and, if_neg Bool.false_ne_true]
  have e : ((List.range n).filterMap fun (k : Nat) => items[(a + (k : Int) * c).toNat]?).toArray = (pickC items.toList a c n).toArray := by
    unfold pickC
    congr 2
    funext k
    rw [Array.getElem?_toList]
  rw [e]
  first
    | exact wpAny_bind (m := Builtin.Tuple.tupleExact _) (wpAny_newObj_type (wpAny_pure ⟨_, rfl, wpAny_pure h⟩) htake)
    | exact wpAny_bind (m := Builtin.Tuple.tupleExact _) (wpAny_newObj_type (wpAny_bind (wpAny_pure (wpAny_pure ⟨_, rfl, wpAny_pure h⟩))) htake)
    | exact wpAny_bind (wpAny_bind (m := Builtin.Tuple.tupleExact _) (wpAny_newObj_type (wpAny_pure (wpAny_pure ⟨_, rfl, wpAny_pure h⟩)) htake))
    | exact wpAny_bind (wpAny_bind (m := Builtin.Tuple.tupleExact _) (wpAny_newObj_type (wpAny_pure ⟨_, rfl, wpAny_pure h⟩) htake))
end
/-- a slice with a step, by values -/
def s3B (X : Cx) : V → Option Int → Option Int → Int → Hp → VK → Prop := fun x lo hi st H Q => ∀ (pins : List (Addr × Obj)) (s : Shared) (σ : St) (v vl vu vc : Value) (sl : Addr), Inv X pins σ H s → RelV x v → s.heap.IsSliceOf sl vl vu vc → IsPart vl lo → IsPart vu hi → IsPart vc (some st) →
    ∃ T id, typeLookup (.type T) "__getitem__" = pure (some (.builtin id)) ∧ s.TypeIs v T ∧ wpAny (model X.prog X.w) X.A (getItem v (.ref sl)) (EP X pins σ Q) X.xe s
def S3 (X : Cx) (x : Sl) (lo hi : Option Int) (st : Int) (z : Z) (Q : Sl → Z → Prop) : Prop := ∀ c w σ v k, B X.K c w σ z → Vl X.K w v x → Cont X.K c w σ Q k → s3B X v lo hi st w.H k
section
variable {X : Cx} {a b : Expr} {z : Z} {pos : Pos} {Q : Sl → Z → Prop}
theorem pe_sl3 {e st : Expr} {lo hi : Option Expr} {p2 : Pos} {te ts : TE} {tl th : TO} (he : PE X e te) (hl : PO X lo tl) (hu : PO X hi th) (hst : PE X st ts) :
    PE X (.Subscript e (.Slice lo hi (some st) p2) pos) (fun σ H Q => te σ H fun x H1 => tl σ H1 fun l H2 => th σ H2 fun u H3 => ts σ H3 fun y H4 => ∃ c, y = .int c ∧ s3B X x l u c H4 Q) := by
  refine ⟨fun pins s σ H Q I h => ?_⟩
  refine Subscript_ (thn (he.run pins s σ H _ I h) fun v s1 ⟨x, H1, I1, r1, q1⟩ => ?_)
  refine wpAny_Slice (thn (hl.run pins s1 σ H1 _ I1 q1) fun vl s2 ⟨l, H2, I2, pl, q2⟩ => thn (hu.run pins s2 σ H2 _ I2 q2) fun vu s3 ⟨u, H3, I3, pu, q3⟩ => ?_)
  rw [evalPart_some]
  refine thn (hst.run pins s3 σ H3 _ I3 q3) fun vc s4 ⟨y, H4, I4, r4, c, e1, q4⟩ => ?_
  · subst e1
    obtain ⟨tk, rfl⟩ := r4
    have pc : IsPart (.int c tk) (some c) := .int c tk
    have I5 : Inv X pins σ H4 { s4 with heap := s4.heap.push { cls := .type "slice", data := .fields #[vl, vu, .int c tk] } } := I4.kept (t' := s4.toks) fun b ob q => Heap.get?_push_of_some _ q
    obtain ⟨T, id, hT, ht, hg⟩ := q4 pins { s4 with heap := s4.heap.push { cls := .type "slice", data := .fields #[vl, vu, .int c tk] } } σ v vl vu (.int c tk) s4.heap.objs.size I5 r1 (Heap.IsSliceOf.new ..) pl pu pc
    show wpAny (model X.prog X.w) X.A (subscriptTail e (.Slice lo hi (some st) p2) v (.ref s4.heap.objs.size)) (EP X pins σ Q) X.xe { s4 with heap := s4.heap.push { cls := .type "slice", data := .fields #[vl, vu, .int c tk] } }
    exact tail_any (ops := [v, .ref s4.heap.objs.size]) ht hT hg (by with_unfolding_all rfl)
theorem we_sl3 {e st : Expr} {lo hi : Option Expr} {p2 : Pos} (h : WE X e z fun x z1 => WO X lo z1 fun l z2 => WO X hi z2 fun u z3 => WE X st z3 fun y z4 => ∃ c, y = .sh (.int c) ∧ S3 X x l u c z4 Q) : WE X (.Subscript e (.Slice lo hi (some st) p2) pos) z Q := fun c w σ k bb hk =>
  tE_of (pe_sl3 peB poB poB peB) (h c w σ _ bb fun v x w1 z1 b1 l1 q1 h1 => wo_ok h1 c w1 σ _ b1 fun i w2 z2 b2 l2 h2 => wo_ok h2 c w2 σ _ b2 fun j w3 z3 b3 l3 h3 => h3 c w3 σ _ b3 fun u y w4 z4 b4 l4 q4 ⟨cc, e1, h4⟩ => by
    subst e1
    exact ⟨cc, Dp_int q4, h4 c w4 σ v k b4 (q1.mono ((l2.trans l3).trans l4)) (hk.le (((l1.trans l2).trans l3).trans l4))⟩)
/-- t[:0:-1], t a tuple that isn't empty -/
theorem pick_back {α : Type} (x : α) (xs : List α) : pickC (x :: xs) ((xs.length + 1 : Nat) - 1 : Int) (-1) xs.length = xs.reverse := by
  unfold pickC
  have key : ∀ (n : Nat), n ≤ xs.length → (List.range n).filterMap (fun (k : Nat) => (x :: xs)[(((xs.length + 1 : Nat) - 1 : Int) + (k : Int) * -1).toNat]?) = xs.reverse.take n := fun n => by
    induction n with
    | zero => intro _; rfl
    | succ n ih =>
      intro hn
      rw [List.range_succ, List.filterMap_append, ih (by omega), List.take_add_one]
      congr 1
      have e : (((xs.length + 1 : Nat) - 1 : Int) + (n : Int) * -1).toNat = xs.length - n := by omega
      have e2 : xs.length - n = (xs.length - 1 - n) + 1 := by omega
      rw [List.filterMap_cons, List.filterMap_nil, e, e2, List.getElem?_cons_succ]
      rw [List.getElem?_reverse (by omega)]
      have hl : xs.length - 1 - n < xs.length := by omega
      rw [List.getElem?_eq_getElem hl]
      rfl
  rw [key xs.length (Nat.le_refl _), List.take_of_length_le (by simp)]
theorem paired_pick {α β : Type} {F : α → β → Prop} {xs : List α} {ys : List β} (h : Paired F xs ys) (a c : Int) (n : Nat) : Paired F (pickC xs a c n) (pickC ys a c n) := by
  unfold pickC
  induction n with
  | zero => exact .nil
  | succ n ih =>
    rw [List.range_succ, List.filterMap_append, List.filterMap_append]
    refine paired_app ih ?_
    rw [List.filterMap_cons, List.filterMap_nil, List.filterMap_cons, List.filterMap_nil]
    cases e : ys[(a + (n : Int) * c).toNat]? with
    | none =>
      have : xs[(a + (n : Int) * c).toNat]? = none := by
        rw [List.getElem?_eq_none_iff] at e ⊢
        rw [h.length]
        exact e
      rw [this]
      exact .nil
    | some y =>
      obtain ⟨x, e1, q⟩ := paired_get h e
      rw [e1]
      exact .cons q .nil
theorem s3_back {d : PyData} {ds : List PyData} (hl : ds.length < 100000) (h : Q (.sh (.tuple ds.reverse)) z) : S3 X (.sh (.tuple (d :: ds))) none (some 0) (-1) z Q := fun c w σ v k b r1 hk => by
  obtain ⟨p, xs, rfl, h1, s1⟩ := Dp_tupI r1
  intro pins s σ2 v vl vu vc sl I rx hs pl pu pc
  cases rx
  obtain ⟨its, r, ht, hz⟩ := I.tuple (Same.tup b.same h1)
  have hxl : xs.length = ds.length + 1 := by rw [DpAll_len s1]; rfl
  have hil : its.toArray.size = ds.length + 1 := by rw [List.size_toArray, ← r.length]; exact hxl
  refine ⟨"tuple", _, PyProof.Rows.slot_tuple_getitem.lookup, ht.typeIs, ?_⟩
  have ea : Builtin.Slice.sliceAdjust none (some 0) (-1) (its.toArray.size : Int) = ((its.toArray.size : Int) - 1, 0) := by
    unfold Builtin.Slice.sliceAdjust
    rw [hil]
    have h3 : min (0 : Int) (((ds.length + 1 : Nat) : Int) - 1) = 0 := by omega
    simp only [show (-1 : Int) < 0 by decide, if_true, show ¬ (0 : Int) < 0 by decide, if_false, h3]
  have en : Builtin.Slice.slicePlaces ((its.toArray.size : Int) - 1) 0 (-1) = ds.length := by
    unfold Builtin.Slice.slicePlaces
    rw [hil]
    by_cases h0 : ds.length = 0
    · rw [h0]
      decide
    · simp only [show ¬ (-1 : Int) > 0 by decide, if_false, show ((ds.length + 1 : Nat) : Int) - 1 > 0 by omega, if_true, show (- -1 : Int) = 1 by decide, Int.ediv_one]
      omega
  refine getItem_tuple_c (a := (its.toArray.size : Int) - 1) (n := ds.length) ht hs pl pu pc (by decide) (by decide) (by rw [ea]) (by rw [ea]; exact en) (Nat.le_of_lt (Nat.lt_of_lt_of_le hl (by decide))) ?_
  have hpk : Paired (Dq X.K w.S) (pickC xs ((ds.length + 1 : Nat) - 1 : Int) (-1) ds.length) ds.reverse := by
    have := paired_pick (DqAll_paired s1) ((ds.length + 1 : Nat) - 1 : Int) (-1) ds.length
    rw [pick_back d ds] at this
    exact this
  have hvp : Vals (pickC xs ((ds.length + 1 : Nat) - 1 : Int) (-1) ds.length) (pickC its.toArray.toList ((its.toArray.size : Int) - 1) (-1) ds.length) := by
    rw [hil]
    exact paired_pick (F := RelV) r _ _ _
  have hfin := new_tup (Q := Q) b (paired_DqAll hpk) hk h _ { cls := .type "tuple", data := .seq (pickC its.toArray.toList ((its.toArray.size : Int) - 1) (-1) ds.length).toArray } (I.hok.fresh (Nat.le_refl _)) rfl
  refine ⟨.ref s.heap.objs.size, _, laidP I hvp ?_, rfl, hfin⟩
  rw [hpk.length, List.length_reverse]
  exact Nat.le_of_lt (Nat.lt_of_lt_of_le hl (by decide))
/-- xs[::-1] of a list -/
theorem s3_rev {ds : List PyData} (h : Q (.sh (.list ds.reverse)) z) : S3 X (.sh (.list ds)) none none (-1) z Q := fun c w σ v k b r1 hk => by
  obtain ⟨p, xs, rfl, h1, s1⟩ := Dp_lstI r1
  intro pins s σ2 v vl vu vc sl I rx hs pl pu pc
  cases rx
  obtain ⟨its, r, ht, hz⟩ := I.list (.inl (Same.rd b.same h1))
  refine ⟨"list", _, PySem.list_getitem_lookup, ht.isList.typeIs, ?_⟩
  refine wpAny_getItem_list_slice ht.isList hs pl pu pc (by decide) ?_ (by rw [List.size_toArray, ← r.length]; exact hz)
  rw [PySem.W.krv_pick]
  have hfin := new_lstF (Q := Q) b (paired_DqAll (paired_rev (DqAll_paired s1))) hk h _ (I.hok.fresh (Nat.le_refl _))
  exact ⟨.ref s.heap.objs.size, _, I.lnew (t' := s.toks) (paired_rev (F := RelV) r) (by rw [List.length_reverse]; exact hz), rfl, hfin⟩
end
/-! ### list.extend of a tuple -/
section
variable {X : Cx} {z : Z} {Q : Sl → Z → Prop}
open AutoSeq1 in
theorem list_extend_tup (l : Addr) (items : Array Value) (n : Nat) (b : Addr) (items2 : Array Value) (n2 : Nat) (dd : Option Addr) (sl : Array (Option Value)) (hs0 : ¬(!items.isEmpty && Builtin.List.listTooLong (items.size + items2.size)) = true) (hs1 : items.size ≤ sizeLine) (hs2 : items.size + items2.size ≤ sizeLine + 1) :
    Meets (Builtin.«list.extend» ⟨[.ref l, .ref b], []⟩) (fun _ R s => s.heap.get? l = some { cls := .type "list", dict := none, data := .seq items n, slots := #[] } ∧ s.heap.get? b = some { cls := .type "tuple", dict := dd, data := .seq items2 n2, slots := sl } ∧ R (.ok (.ret Value.none)) { s with heap := s.heap.update l (Obj.mapSeq fun x => x ++ items2), toks := s.toks }) :=
  .of_wp fun prog w A R s h => by
    obtain ⟨hp, g, d, tk, os⟩ := s; obtain ⟨hl, hb, h⟩ := h; have f1 := idx_int; have f2 := AutoSeq1.sub_tuple_tuple; have f3 := AutoSeq1.sub_list_list; have f4 := AutoSeq1.sub_tuple_list; have f5 := AutoSeq1.sub_list_tuple;
    have hz' : (items ++ items2).size ≤ sizeLine + 1 := by rw [Array.size_append]; exact hs2
    wp_walk using (wpAny_updateSeq hl rfl (hz := hs1) (_hz' := hz')), wpAny_loadPart' hl, wpAny_loadPart' hb; exact ⟨_, rfl, h⟩
theorem rExtT : MtM X "list.extend" (fun x vs H Q => ∃ l b xs zs, x = .ref l ∧ vs = [.ref b] ∧ H l = some (.lst xs) ∧ SqT X.K H b zs ∧ xs.length + zs.length ≤ sizeLine ∧ Q .non (upd H l (.lst (xs ++ zs)))) := by
  intro pins s σ H x vs v us Q I rx rv h
  obtain ⟨l, b, xs, zs, rfl, rfl, hH, hB, hz, q⟩ := h
  cases rx
  obtain ⟨u, rfl, ru⟩ := rv.one
  cases ru
  obtain ⟨z, its, n, r, hl, e⟩ := I.lstM hH
  obtain ⟨its2, r2, ⟨⟨oc, dd, od, sl⟩, e2, hc, n2, hd⟩, z2⟩ := I.tuple hB
  simp only at hc hd
  subst hc hd
  have hl2 := r2.length
  have hsz : its.toArray.size + its2.toArray.size ≤ sizeLine := by rw [List.size_toArray, List.size_toArray]; omega
  have hlong : ¬ (!its.toArray.isEmpty && Builtin.List.listTooLong (its.toArray.size + its2.toArray.size)) = true := by
    rw [notLongL hsz, Bool.and_false]
    exact Bool.false_ne_true
  refine call_meets F.slot_list_extend ⟨_, e, rfl⟩ F.entry_list_extend (F.args_list_extend_2 _ _)
    (list_extend_tup l its.toArray n b its2.toArray n2 dd sl hlong (by rw [List.size_toArray]; omega) (by omega)) ⟨e, e2, ?_⟩
  refine ⟨.non, _, I.lset (its' := its ++ its2) hH e (by simp) (r.append r2) ?_, rfl, q⟩
  rw [List.length_append]
  omega
theorem mo_extendT {i : Nat} {xs : List Sl} {ds : List PyData} (ho : z.ob[i]? = some (.lst xs)) (hl : xs.length + ds.length ≤ 100000) (h : Q (.sh .none) ⟨z.sl, z.ob.set i (.lst (xs ++ ds.map .sh))⟩) : MO X "list.extend" i [.sh (.tuple ds)] z Q := fun c w σ p vs k b hp rr hk => by
  obtain ⟨v, rfl, r⟩ := p1 rr
  obtain ⟨_, us, hH, hv⟩ := b.ob i _ p ho hp
  obtain ⟨q, zs, rfl, h1, s1⟩ := Dp_tupI r
  refine mB_of rExtT ⟨p, q, us, zs, rfl, rfl, hH, Same.tup b.same h1, ?_, hk _ _ _ _ (b.setO ho hp (paired_app hv (dp_allSh s1))) le_set vN h⟩
  rw [hv.length, DpAll_len s1]
  exact Nat.le_trans hl (by decide)
/-! ### list * int, in of ints -/
theorem op_repR : OpR X (binaryOp .Mult) (fun x y H Q => ∃ l k xs, x = .ref l ∧ y = .int k ∧ Rd H l (.lst xs) ∧ -(2 ^ 63) ≤ k ∧ k < 2 ^ 63 ∧ xs.length * k.toNat ≤ sizeLine ∧
  ∀ p, H p = none → Q (.ref p) (upd H p (.lst (List.replicate k.toNat xs).flatten))) := by
  intro pins s σ H x y v u Q I rx ry h
  obtain ⟨l, k, xs, rfl, rfl, hH, h1, h2, hz, q⟩ := h
  cases rx
  obtain ⟨t, rfl⟩ := ry
  obtain ⟨z, its, n, r, e⟩ := hH.ok I.hok
  have hl := r.length
  have big : its.toArray.size * k.toNat ≤ sizeLine := by
    rw [List.size_toArray, ← hl]
    exact hz
  have cap : ¬ its.toArray.size * k.toNat > (2 ^ 63 - 1) / 8 := fun h => absurd (Nat.lt_of_lt_of_le h big) (by decide)
  have new : List.foldl (fun x1 x2 => x1 ++ x2) #[] (List.replicate (if its.toArray.isEmpty = true then 0 else k.toNat) its.toArray) = (List.replicate k.toNat its).flatten.toArray := by
    have f0 := fun m : Nat => foldl_rep its m []
    simp only [List.nil_append] at f0
    refine (f0 _).trans ?_
    cases its with
    | nil => simp
    | cons a r' => simp
  refine wpAny_binaryOp_repeat_ref (T := "list") (U := "int") (by decide) ⟨_, e, rfl⟩ (fun s' => typeIs_int s' k t) noFill_list_mul F.fills_int_mul F.slot_int_rmul repeat_list F.slot_int_index.lookup
    (call_meets F.slot_int_rmul (typeIs_int s k t) F.entry_int_rmul (F.args_int_rmul_2 _ _) (int___rmul___int_list k t l its.toArray n) ⟨e, rfl, ⟨_, e, rfl⟩,
      call_meets F.slot_list_mul ⟨_, e, rfl⟩ F.entry_list_mul (F.args_list_mul_2 _ _) (AutoListH.list___mul___list_int_3 l its.toArray n k t (by rw [fitsIndex_both h1 h2]; exact Bool.false_ne_true) cap (by rw [notLongL big]; exact Bool.false_ne_true)) ⟨e, ?_⟩⟩)
  rw [new]
  exact ⟨.ref _, _, I.lnew (t' := s.toks) (r.rep k.toNat) (by rw [PyProof.Rows.lm_len_rep_flat, Nat.mul_comm]; exact hz), rfl, q _ I.fresh⟩
theorem DqAll_rep {K : PySem.W.Frag} {H : Hp} {vs : List V} {ds : List PyData} (h : DqAll K H vs ds) : ∀ n : Nat, DqAll K H (List.replicate n vs).flatten (List.replicate n ds).flatten
  | 0 => .nil
  | n + 1 => by
    rw [List.replicate_succ, List.replicate_succ, List.flatten_cons, List.flatten_cons]
    exact DqAll_app h (DqAll_rep h n)
theorem rd_repF {ds : List PyData} {k : Int} (h1 : k < 1000) (h0 : -1000 < k) (hc : ds.length ≤ 10000) (h : Q (.sh (.list (List.replicate k.toNat ds).flatten)) z) : RD X (binaryOp .Mult) (.sh (.list ds)) (.sh (.int k)) z Q := fun c w σ v u kk b r1 r2 hk => by
  obtain ⟨p, xs, rfl, h3, s1⟩ := Dp_lstI r1
  cases Dp_int r2
  refine rB_of op_repR ⟨p, k, xs, rfl, rfl, Same.rd b.same h3, by omega, by omega, ?_, new_lstF b (DqAll_rep s1 _) hk h⟩
  rw [DpAll_len s1]
  have h5 : k.toNat ≤ 1000 := by omega
  exact Nat.le_trans (Nat.mul_le_mul hc h5) (by decide)
/-- n in a list of ints -/
theorem inV_ints (n : Int) : ∀ ns : List Int, inV (.int n) (ns.map V.int) = ns.contains n
  | [] => rfl
  | m :: ns => by
    show (eqV (.int m) (.int n) || inV (.int n) (ns.map V.int)) = _
    rw [inV_ints n ns, List.contains_cons]
    congr 1
    show (m == n) = (n == m)
    exact Bool.beq_comm
theorem flat_ints (ns : List Int) : (ns.map V.int).all flatV = true := by
  rw [List.all_eq_true]
  intro v hv
  obtain ⟨n, _, rfl⟩ := List.mem_map.mp hv
  rfl
theorem rd_inI {n : Int} {ns : List Int} (h : Q (.sh (.bool (ns.contains n))) z) : RD X (compareOp .In) (.sh (.int n)) (.sh (.list (ns.map .int))) z Q := fun c w σ v u kk b r1 r2 hk => by
  cases Dp_int r1
  obtain ⟨p, xs, rfl, h3, s1⟩ := Dp_lstI r2
  have e := ints_v s1
  subst e
  refine rB_of op_in_seq ⟨p, _, rfl, .inl (.inl (Same.rd b.same h3)), rfl, flat_ints ns, ?_⟩
  rw [if_neg Bool.false_ne_true, inV_ints]
  exact hk _ _ w z b (.refl w) (vB _) h
theorem rd_notInI {n : Int} {ns : List Int} (h : Q (.sh (.bool (!ns.contains n))) z) : RD X (compareOp .NotIn) (.sh (.int n)) (.sh (.list (ns.map .int))) z Q := fun c w σ v u kk b r1 r2 hk => by
  cases Dp_int r1
  obtain ⟨p, xs, rfl, h3, s1⟩ := Dp_lstI r2
  have e := ints_v s1
  subst e
  refine rB_of op_notIn_seq ⟨p, _, rfl, .inl (.inl (Same.rd b.same h3)), rfl, flat_ints ns, ?_⟩
  rw [if_pos rfl, inV_ints]
  exact hk _ _ w z b (.refl w) (vB _) h
end
/-! ### ways that meet again -/
section
variable {X : Cx} {st : Stmt} {rest : List Stmt} {z : Z} {Q : Out → Prop}
def JoinQ (J : Z → Prop) (Q : Out → Prop) : Out → Prop
  | .nx z => J z
  | o => Q o
theorem join_nx {J : Z → Prop} (h : J z) : JoinQ J Q (.nx z) := h
theorem join_rt {J : Z → Prop} {x : Sl} (h : Q (.rt x z)) : JoinQ J Q (.rt x z) := h
theorem join_bk {J : Z → Prop} (h : Q (.bk z)) : JoinQ J Q (.bk z) := h
theorem join_ct {J : Z → Prop} (h : Q (.ct z)) : JoinQ J Q (.ct z) := h
theorem ws_join (J : Z → Prop) (h : W1 X st z (JoinQ J Q)) (hJ : ∀ z, J z → WS X rest z Q) : WS X (st :: rest) z Q := ws_cons fun c w σ D bb hk => h c w σ D bb
  ⟨fun w' σ' z' b l q => hk.nx w' σ' z' b l (hJ z' q), fun v x w' σ' z' b l r q => hk.rt v x w' σ' z' b l r q, fun w' σ' z' b l q => hk.bk w' σ' z' b l q, fun w' σ' z' b l q => hk.ct w' σ' z' b l q⟩
theorem loop_nx {N : Z → Prop} (h : N z) : LoopQ N Q (.nx z) := h
theorem loop_ct {N : Z → Prop} (h : N z) : LoopQ N Q (.ct z) := h
theorem loop_bk {N : Z → Prop} (h : Q (.nx z)) : LoopQ N Q (.bk z) := h
theorem loop_rt {N : Z → Prop} {x : Sl} (h : Q (.rt x z)) : LoopQ N Q (.rt x z) := h
end
theorem Bx.Ok.mk0 {a s : Int} (h0 : 0 ≤ a) (h1 : 0 ≤ s) (h2 : s < 1099511627776) : (⟨a, s, 0⟩ : Bx).Ok 1000000000 := ⟨h0, h1, h2, Int.le_refl 0, by show (0 : Int) + 1000000000 ≤ _; decide⟩
end Dl

namespace Dl
open PySem PySem.Spec L2
open PyProof.Rows hiding St
/-! ### isinstance by kinds -/
theorem isi_non_int {z : Z} : Isi (.sh PyData.none) z "int" false := show kitB "NoneType" "int" = some false by decide +kernel
theorem isi_non_bool {z : Z} : Isi (.sh PyData.none) z "bool" false := show kitB "NoneType" "bool" = some false by decide +kernel
theorem isi_non_str {z : Z} : Isi (.sh PyData.none) z "str" false := show kitB "NoneType" "str" = some false by decide +kernel
theorem isi_non_list {z : Z} : Isi (.sh PyData.none) z "list" false := show kitB "NoneType" "list" = some false by decide +kernel
theorem isi_non_tuple {z : Z} : Isi (.sh PyData.none) z "tuple" false := show kitB "NoneType" "tuple" = some false by decide +kernel
theorem isi_bool_int {b : Bool} {z : Z} : Isi (.sh (.bool b)) z "int" true := show kitB "bool" "int" = some true by decide +kernel
theorem isi_bool_bool {b : Bool} {z : Z} : Isi (.sh (.bool b)) z "bool" true := show kitB "bool" "bool" = some true by decide +kernel
theorem isi_bool_str {b : Bool} {z : Z} : Isi (.sh (.bool b)) z "str" false := show kitB "bool" "str" = some false by decide +kernel
theorem isi_bool_list {b : Bool} {z : Z} : Isi (.sh (.bool b)) z "list" false := show kitB "bool" "list" = some false by decide +kernel
theorem isi_bool_tuple {b : Bool} {z : Z} : Isi (.sh (.bool b)) z "tuple" false := show kitB "bool" "tuple" = some false by decide +kernel
theorem isi_int_int {i : Int} {z : Z} : Isi (.sh (.int i)) z "int" true := show kitB "int" "int" = some true by decide +kernel
theorem isi_int_bool {i : Int} {z : Z} : Isi (.sh (.int i)) z "bool" false := show kitB "int" "bool" = some false by decide +kernel
theorem isi_int_str {i : Int} {z : Z} : Isi (.sh (.int i)) z "str" false := show kitB "int" "str" = some false by decide +kernel
theorem isi_int_list {i : Int} {z : Z} : Isi (.sh (.int i)) z "list" false := show kitB "int" "list" = some false by decide +kernel
theorem isi_int_tuple {i : Int} {z : Z} : Isi (.sh (.int i)) z "tuple" false := show kitB "int" "tuple" = some false by decide +kernel
theorem isi_str_int {x : Str} {z : Z} : Isi (.sh (.str x)) z "int" false := show kitB "str" "int" = some false by decide +kernel
theorem isi_str_bool {x : Str} {z : Z} : Isi (.sh (.str x)) z "bool" false := show kitB "str" "bool" = some false by decide +kernel
theorem isi_str_str {x : Str} {z : Z} : Isi (.sh (.str x)) z "str" true := show kitB "str" "str" = some true by decide +kernel
theorem isi_str_list {x : Str} {z : Z} : Isi (.sh (.str x)) z "list" false := show kitB "str" "list" = some false by decide +kernel
theorem isi_str_tuple {x : Str} {z : Z} : Isi (.sh (.str x)) z "tuple" false := show kitB "str" "tuple" = some false by decide +kernel
theorem isi_list_int {ds : List PyData} {z : Z} : Isi (.sh (.list ds)) z "int" false := show kitB "list" "int" = some false by decide +kernel
theorem isi_list_bool {ds : List PyData} {z : Z} : Isi (.sh (.list ds)) z "bool" false := show kitB "list" "bool" = some false by decide +kernel
theorem isi_list_str {ds : List PyData} {z : Z} : Isi (.sh (.list ds)) z "str" false := show kitB "list" "str" = some false by decide +kernel
theorem isi_list_list {ds : List PyData} {z : Z} : Isi (.sh (.list ds)) z "list" true := show kitB "list" "list" = some true by decide +kernel
theorem isi_list_tuple {ds : List PyData} {z : Z} : Isi (.sh (.list ds)) z "tuple" false := show kitB "list" "tuple" = some false by decide +kernel
theorem isi_tup_int {ds : List PyData} {z : Z} : Isi (.sh (.tuple ds)) z "int" false := show kitB "tuple" "int" = some false by decide +kernel
theorem isi_tup_bool {ds : List PyData} {z : Z} : Isi (.sh (.tuple ds)) z "bool" false := show kitB "tuple" "bool" = some false by decide +kernel
theorem isi_tup_str {ds : List PyData} {z : Z} : Isi (.sh (.tuple ds)) z "str" false := show kitB "tuple" "str" = some false by decide +kernel
theorem isi_tup_list {ds : List PyData} {z : Z} : Isi (.sh (.tuple ds)) z "list" false := show kitB "tuple" "list" = some false by decide +kernel
theorem isi_tup_tuple {ds : List PyData} {z : Z} : Isi (.sh (.tuple ds)) z "tuple" true := show kitB "tuple" "tuple" = some true by decide +kernel
theorem isi_ob_list {i : Nat} {xs : List Sl} {z : Z} (h : z.ob[i]? = some (.lst xs)) : Isi (.ob i) z "list" true := ⟨⟨xs, h⟩, by decide +kernel⟩
theorem isi_ob_tuple {i : Nat} {xs : List Sl} {z : Z} (h : z.ob[i]? = some (.lst xs)) : Isi (.ob i) z "tuple" false := ⟨⟨xs, h⟩, by decide +kernel⟩
/-- plain data of a depth -/
def Pd : Nat → PyData → Prop
  | _, .none => True
  | _, .bool _ => True
  | _, .int _ => True
  | _, .str _ => True
  | n + 1, .list ds => ds.length ≤ 100000 ∧ ∀ d ∈ ds, Pd n d
  | n + 1, .tuple ds => ds.length ≤ 100000 ∧ ∀ d ∈ ds, Pd n d
  | _, _ => False
theorem Pd.mono : ∀ {n m : Nat} {d : PyData}, Pd n d → n ≤ m → Pd m d
  | _, m, .none, _, _ => by cases m <;> trivial
  | _, m, .bool _, _, _ => by cases m <;> trivial
  | _, m, .int _, _, _ => by cases m <;> trivial
  | _, m, .str _, _, _ => by cases m <;> trivial
  | n + 1, m + 1, .list ds, h, l => ⟨h.1, fun d hd => (h.2 d hd).mono (Nat.le_of_succ_le_succ l)⟩
  | n + 1, m + 1, .tuple ds, h, l => ⟨h.1, fun d hd => (h.2 d hd).mono (Nat.le_of_succ_le_succ l)⟩
  | 0, _, .list ds, h, _ => h.elim
  | 0, _, .tuple ds, h, _ => h.elim
  | 0, _, .dict ds, h, _ => h.elim
  | _ + 1, _, .dict ds, h, _ => h.elim
theorem Pd.bools : ∀ (n : Nat) (b : Bool), Pd n (.bool b)
  | 0, _ => trivial
  | _ + 1, _ => trivial
theorem Pd.ints : ∀ (n : Nat) (b : Int), Pd n (.int b)
  | 0, _ => trivial
  | _ + 1, _ => trivial
theorem Pd.strs : ∀ (n : Nat) (b : Str), Pd n (.str b)
  | 0, _ => trivial
  | _ + 1, _ => trivial
end Dl

namespace Dl
open PySem PySem.Spec L2
open PyProof.Rows hiding St

/-! ### comprehensions over data alone -/
section
variable {X : Cx} {tg elt t : Expr} {scope : Scope} {vs : List Nat} {g : TG} {Q : Sl → Z → Prop} {ys : List Sl} {G : Z → Prop} {z1 : Z}
theorem lcd_map (fs : List PyData) (hl : ys.length = fs.length) (hlen : ys.length ≤ 100000) (hG : G ⟨wipeZ z1.sl vs, z1.ob⟩)
    (h : ∀ (i : Nat) (y : Sl) (d : PyData), ys[i]? = some y → fs[i]? = some d → GD X.K vs g y ⟨wipeZ z1.sl vs, z1.ob⟩ fun z2 => ∀ s H C cl fp, WE (Blk X scope s H C cl fp) elt z2 fun x z4 => x = .sh d ∧ z4.ob = z1.ob)
    (hQ : Q (.sh (.list fs)) z1) : LcD X tg elt [] scope vs g (FrzK Q) ys G z1 := by
  refine ⟨hlen, fun i acc om => acc = (fs.take i).map .sh ∧ om = z1.ob, ⟨by simp, rfl⟩, ?_, ?_, ?_⟩
  · rintro i acc om ⟨_, rfl⟩
    exact hG
  · rintro i y acc om hy ⟨rfl, rfl⟩ _
    have hi : i < fs.length := by
      have := (List.getElem?_eq_some_iff.mp hy).1
      omega
    have hd : fs[i]? = some fs[i] := List.getElem?_eq_getElem hi
    intro c w σ v k bb r hk
    refine h i y _ hy hd c w σ v k bb r fun w' σ' z' b' l hw hq => hk w' σ' z' b' l hw fun s H C cl fp => ?_
    refine ⟨fun _ s2 H2 C2 cl2 fp2 => (hq s2 H2 C2 cl2 fp2).mono fun x z4 ⟨e1, e2⟩ => ⟨?_, e2⟩, fun h => by cases h⟩
    rw [e1, List.take_add_one, hd, List.map_append]
    rfl
  · rintro acc om ⟨rfl, rfl⟩ _
    rw [hl, List.take_of_length_le (Nat.le_refl _)]
    exact ⟨fs, allSh_map fs, hQ⟩
theorem lcd_filter (fs : List (Option PyData)) (hl : ys.length = fs.length) (hlen : ys.length ≤ 100000) (hG : G ⟨wipeZ z1.sl vs, z1.ob⟩)
    (h : ∀ (i : Nat) (y : Sl) (o : Option PyData), ys[i]? = some y → fs[i]? = some o → GD X.K vs g y ⟨wipeZ z1.sl vs, z1.ob⟩ fun z2 => ∀ s H C cl fp, WT (Blk X scope s H C cl fp) t z2 fun b z3 => b = o.isSome ∧ z3.ob = z1.ob ∧ ∀ d, o = some d → ∀ s H C cl fp, WE (Blk X scope s H C cl fp) elt z3 fun x z4 => x = .sh d ∧ z4.ob = z1.ob)
    (hQ : Q (.sh (.list (fs.filterMap _root_.id))) z1) : LcD X tg elt [t] scope vs g (FrzK Q) ys G z1 := by
  refine ⟨hlen, fun i acc om => acc = ((fs.take i).filterMap _root_.id).map .sh ∧ om = z1.ob, ⟨by simp, rfl⟩, ?_, ?_, ?_⟩
  · rintro i acc om ⟨_, rfl⟩
    exact hG
  · rintro i y acc om hy ⟨rfl, rfl⟩ _
    have hi : i < fs.length := by
      have := (List.getElem?_eq_some_iff.mp hy).1
      omega
    have hd : fs[i]? = some fs[i] := List.getElem?_eq_getElem hi
    intro c w σ v k bb r hk
    refine h i y _ hy hd c w σ v k bb r fun w' σ' z' b' l hw hq => hk w' σ' z' b' l hw fun s H C cl fp => ?_
    refine (hq s H C cl fp).mono fun b z3 ⟨hb, e3, he⟩ => ⟨fun h1 s2 H2 C2 cl2 fp2 => ?_, fun h1 => ⟨?_, e3⟩⟩
    · rw [hb] at h1
      obtain ⟨d, hd2⟩ := Option.isSome_iff_exists.mp h1
      refine (he d hd2 s2 H2 C2 cl2 fp2).mono fun x z4 ⟨e1, e2⟩ => ⟨?_, e2⟩
      rw [e1, List.take_add_one, hd, hd2, List.filterMap_append, List.map_append]
      rfl
    · rw [hb] at h1
      have hn : fs[i] = none := by
        cases e : fs[i] with
        | none => rfl
        | some d =>
          rw [e] at h1
          cases h1
      rw [List.take_add_one, hd, hn, List.filterMap_append, List.map_append]
      simp
  · rintro acc om ⟨rfl, rfl⟩ _
    rw [hl, List.take_of_length_le (Nat.le_refl _)]
    exact ⟨_, allSh_map _, hQ⟩
end
section
variable {P : Program} {w : World} {K : PySem.W.Frag} {mg : Str → Option Value} {base : Heap} {X : Cx} {N : List Str} {sc : Scope} {k : Nat}
theorem Good.inB (g : Good X P w K mg base N sc k) {scope : Scope} {s : Shared} {H : Hp} {C : Addr} {cl : List (Str × Addr)} {fp : List Addr} {e : Expr} {z : Z} {Q : Sl → Z → Prop} (l : List (Str × Nat)) (gl : List Str) (h1 : l.all (nmB N (relS scope sc)) = true) (h2 : gl.all (gnB (relS scope sc)) = true)
    (h : Nms (Blk X scope s H C cl fp) l → Gns (Blk X scope s H C cl fp) gl → WE (Blk X scope s H C cl fp) e z Q) : WE (Blk X scope s H C cl fp) e z Q := h (g.bnm h1) (g.bgn h2)
theorem Good.inBT (g : Good X P w K mg base N sc k) {scope : Scope} {s : Shared} {H : Hp} {C : Addr} {cl : List (Str × Addr)} {fp : List Addr} {e : Expr} {z : Z} {Q : Bool → Z → Prop} (l : List (Str × Nat)) (gl : List Str) (h1 : l.all (nmB N (relS scope sc)) = true) (h2 : gl.all (gnB (relS scope sc)) = true)
    (h : Nms (Blk X scope s H C cl fp) l → Gns (Blk X scope s H C cl fp) gl → WT (Blk X scope s H C cl fp) e z Q) : WT (Blk X scope s H C cl fp) e z Q := h (g.bnm h1) (g.bgn h2)
/-- a pair of names as a comprehension's target -/
theorem Good.bpg2 (g : Good X P w K mg base N sc k) {scope : Scope} {s : Shared} {H : Hp} {C : Addr} {cl : List (Str × Addr)} {fp : List Addr} {x y : Str} {i j : Nat} {p1 p2 pos : Pos} {kk : Nat} (h : (decide (N[i]? = some x) && nkB ((relS scope sc).names.lookup x) .local && (decide (N[j]? = some y) && nkB ((relS scope sc).names.lookup y) .local)) = true) :
    PG (Blk X scope s H C cl fp) (.Tuple [.Name x p1, .Name y p2] kk pos) (gTup X.K 2 (gNames [i, j])) := by
  rw [Bool.and_eq_true] at h
  exact pg_tup (X := Blk X scope s H C cl fp) (show X.calm = true from g.calm) (pgs_cons (g.bpg h.1) (pgs_cons (g.bpg h.2) pgs_nil))
theorem Good.bpg3 (g : Good X P w K mg base N sc k) {scope : Scope} {s : Shared} {H : Hp} {C : Addr} {cl : List (Str × Addr)} {fp : List Addr} {x y u : Str} {i j m : Nat} {p1 p2 p3 pos : Pos} {kk : Nat} (h : (decide (N[i]? = some x) && nkB ((relS scope sc).names.lookup x) .local && (decide (N[j]? = some y) && nkB ((relS scope sc).names.lookup y) .local) && (decide (N[m]? = some u) && nkB ((relS scope sc).names.lookup u) .local)) = true) :
    PG (Blk X scope s H C cl fp) (.Tuple [.Name x p1, .Name y p2, .Name u p3] kk pos) (gTup X.K 3 (gNames [i, j, m])) := by
  rw [Bool.and_eq_true, Bool.and_eq_true] at h
  exact pg_tup (X := Blk X scope s H C cl fp) (show X.calm = true from g.calm) (pgs_cons (g.bpg h.1.1) (pgs_cons (g.bpg h.1.2) (pgs_cons (g.bpg h.2) pgs_nil)))
end
theorem rd_eqN {X : Cx} {z : Z} {Q : Sl → Z → Prop} (h : Q (.sh (.bool true)) z) : RD X (compareOp .Eq) (.sh .none) (.sh .none) z Q := fun c w σ v u k b r1 r2 hk => by
  cases Dp_non r1
  cases Dp_non r2
  exact rB_of op_eq ⟨rfl, hk _ _ w z b (.refl w) (vB true) h⟩
/-- the built-ins that a text does not bind -/
structure Bare (mg : Str → Option Value) : Prop where
  len : mg "len" = none
  abs : mg "abs" = none
  int : mg "int" = none
  isi : mg "isinstance" = none
  list : mg "list" = none
  tup : mg "tuple" = none
  str : mg "str" = none
  bool : mg "bool" = none
  all : mg "all" = none
  any : mg "any" = none
  zip : mg "zip" = none
  range : mg "range" = none
  min : mg "min" = none
  max : mg "max" = none
  sorted : mg "sorted" = none
  set : mg "set" = none
  dict : mg "dict" = none
  repr : mg "repr" = none
  enum : mg "enumerate" = none
  sum : mg "sum" = none
  rev : mg "reversed" = none
  type : mg "type" = none
  ord : mg "ord" = none
  chr : mg "chr" = none
section
variable {P : Program} {w : World} {K : PySem.W.Frag} {mg : Str → Option Value} {base : Heap} {X : Cx} {N : List Str} {sc : Scope} {k : Nat}
theorem Good.loc (g : Good X P w K mg base N sc k) {x : Str} (h : nkB (sc.names.lookup x) .local = true) : X.env.scope.names.lookup x = some .local := by
  rw [g.sc]
  exact nkB_eq h
theorem Good.df_rec (g : Good X P w K mg base N sc k) {f : Addr} {fd : FuncData} {x : Str} {j : Nat} {ps : List Str} {R : Rl} (G : FnG P w K mg base CX0 j f fd ps (spD K ps.length R)) (hm : mg x = some (.ref f)) (hk : PySem.W.keepIn K (.ref f) = true) (hb : Binds K fd ps []) : Df P w K mg base x j ps R := ⟨f, fd, G, hm, hk, hb⟩
end
end Dl

namespace Dl
open PySem PySem.Spec L2 PpSet
open PyProof.Rows hiding St
/-! ### set comprehensions of ints; set(list of ints): turned from the library's of truths and of tuples -/
section
variable {X : Cx}
theorem addI_ok {pins : List (Addr × Obj)} {σ : St} {H : Hp} {s : Shared} {E : Value → Shared → Prop} {D : Addr} {S : Int → Bool} {n : Nat} {y : Int} {tk : Tok} {Q : Value → Shared → Prop} (I : Inv X pins σ H s) (hD : H D = some (SetO X.w D S n)) (room : n + 1 < scanBound)
    (h : ∀ s', Inv X pins σ (upd H D (SetO X.w D (fun j => S j || decide (j = y)) (if S y = true then n else n + 1))) s' → Q .none s') : wpAny (model X.prog X.w) X.A (call (.builtin "set.add") [.ref D, .int y tk]) Q E s := by
  have R := setO_get I hD
  refine setR_add R room fun h' sb new => ?_
  have he : ∃ u, h'.get? D = some u := by
    have ⟨o, _, _, _, ho, _⟩ := new
    exact ⟨o, ho⟩
  exact h _ (I.write (e := D) (t' := s.toks + 1) (by rw [hD]; trivial) (.inl rfl) (fun b u hb hu => (sb.2 b hb).trans hu) he (setO_new new))
def tScI (w : World) (wi : TI) (g : TG) (tt : TT) (te : TE) (vs : List Nat) : TE := fun σ H Q => wi σ H fun J H1 => ∀ D, H1 D = none → ∃ W : Nat → Nat → Hp → Prop, (∃ m, W 0 m (upd H1 D (SetO w D (fun _ => false) 0))) ∧ ∀ i m H, W i m H →
  (J.stop i H ∧ Q (.ref D) H) ∨ (J.go i H ∧ ∃ Nx : Hp → Prop, (∀ H', Nx H' → ∃ m', m' < m ∧ W (i + 1) m' H') ∧ ∀ x H', J.yld i H x H' → g x (wipe σ vs) H' fun σ2 H2 => wipe σ2 vs = wipe σ vs ∧ tt σ2 H2 fun b H3 =>
    if b = true then te σ2 H3 fun y H4 => ∃ (c : Int) (S : Int → Bool) (n : Nat), y = .int c ∧ H4 D = some (SetO w D S n) ∧ n + 1 < scanBound ∧ Nx (upd H4 D (SetO w D (fun j => S j || decide (j = c)) (if S c = true then n else n + 1))) else Nx H3)
theorem scI_core {pins : List (Addr × Obj)} {s : Shared} {σ : St} {H : Hp} {Q : VK} {elt tg iter : Expr} {ifs : List Expr} {scope : Scope} {own : List (Str × Nat)} {pos pos' : Pos} {wi : TI} {g : TG} {tt : TT} {te : TE} {use : Option (Value → Sem Unit)} {Qf : Value → Shared → Prop}
    (hc : X.calm = true) (hN : X.N.Nodup) (I : Inv X pins σ H s) (hi : PI X tg iter wi) (ok : BlkOk X.N X.env.scope scope own)
    (hg : ∀ (s : Shared) (H : Hp) (C : Addr) (cl : List (Str × Addr)) (fp : List Addr), PG (X.blk s H scope (compEnvC scope cl C X.env) fp) tg g) (ht : ∀ (s : Shared) (H : Hp) (C : Addr) (cl : List (Str × Addr)) (fp : List Addr), PTs (X.blk s H scope (compEnvC scope cl C X.env) fp) ifs tt)
    (he : ∀ (s : Shared) (H : Hp) (C : Addr) (cl : List (Str × Addr)) (fp : List Addr), PE (X.blk s H scope (compEnvC scope cl C X.env) fp) elt te) (hs : ∀ x, foldedSetIterable iter X.env x = pure x)
    (h : tScI X.w wi g tt te (own.map (·.2)) σ H Q)
    (hRR : ∀ D C s' m H', Inv X pins σ H' s' → Q (.ref D) H' → s'.heap.Ns C m → FpOk X pins H' C → compPost (model X.prog X.w) X.A X.xe use Qf (.ref D) C (.ok .next) s') :
    wpAny (model X.prog X.w) X.A (comprehension (.SetComp elt [⟨tg, iter, ifs, 0⟩] scope pos) scope X.env pos' (newSet (.type "set")) false (eval iter X.env) use) Qf X.xe s := by
  have hfree : ∀ y ∈ scope.names, y.2 = .free → ∃ c, X.env.cells.lookup y.1 = some c := fun y hy e => by
    rcases ok.free y hy e with k | k
    · exact I.ok.has _ (.inl k)
    · exact I.ok.has _ (.inr k)
  refine wpAny_comprehension_free (use := use) rfl hs (closure_ok hfree) ok.kind (fun y hy e => by rw [ok.uniq y hy, e])
    (thn (hi.run pins s σ H _ I h) fun xv s1 hx => thn hx fun itv s2 h2 => ?_)
  obtain ⟨it, fp, tn, J, H2, e, I2, T, st2, f2, q⟩ := h2
  subst e
  refine newSet_ok (newEnv_comp ?_)
  generalize hD : s2.heap.objs.size = D
  have hDn : H2 D = none := I2.hok.fresh (Nat.le_of_eq hD)
  obtain ⟨W, ⟨m0, w0⟩, turn⟩ := q D hDn
  -- the new list
  generalize hs3 : ({ s2 with heap := s2.heap.push { cls := .type "set", dict := none, data := .set #[] 0 (.fresh 0 0 (!X.w.params.followText "set-order")) } } : Shared) = s3
  have I3 : Inv X pins σ (upd H2 D (SetO X.w D (fun _ => false) 0)) s3 := by
    rw [← hs3]
    refine I2.laid (t' := s2.toks) (fun b o e => Heap.get?_push_of_some _ e) (Nat.le_of_eq hD) ?_
    rw [← hD]
    exact setO_new (setR_fresh X.w)
  have h3 : s3.heap = s2.heap.push { cls := .type "set", dict := none, data := .set #[] 0 (.fresh 0 0 (!X.w.params.followText "set-order")) } := by rw [← hs3]
  have sz : ∀ b ∈ fp, b < s2.heap.objs.size := fun b hb => by
    obtain ⟨o, e, _⟩ := T.obj _ _ st2 b hb
    exact Heap.lt_size e
  have f3 : ∀ b ∈ fp, FpOk X pins (upd H2 D (SetO X.w D (fun _ => false) 0)) b ∧ b < s3.heap.objs.size := fun b hb => by
    have hlt := sz b hb
    refine ⟨⟨?_, (f2 b hb).2⟩, by rw [h3, Heap.size_push]; exact Nat.lt_succ_of_lt hlt⟩
    rw [upd_ne (by rw [← hD]; exact Nat.ne_of_lt hlt)]
    exact (f2 b hb).1
  have st3 : tn 0 s3.heap := T.keep _ _ _ st2 fun b _ o e => by rw [h3]; exact Heap.get?_push_of_some _ e
  have I4 := block_start I3 ok hN f3
  have pg := hg s3 (upd H2 D (SetO X.w D (fun _ => false) 0)) s3.heap.objs.size (cellsFrom (s3.heap.objs.size + 1) scope.names (cloFrom X.env.cells scope.names [])) fp
  have pt := ht s3 (upd H2 D (SetO X.w D (fun _ => false) 0)) s3.heap.objs.size (cellsFrom (s3.heap.objs.size + 1) scope.names (cloFrom X.env.cells scope.names [])) fp
  have pe := he s3 (upd H2 D (SetO X.w D (fun _ => false) 0)) s3.heap.objs.size (cellsFrom (s3.heap.objs.size + 1) scope.names (cloFrom X.env.cells scope.names [])) fp
  show codeAny _ _ (.compStart (.SetComp elt [⟨tg, iter, ifs, 0⟩] scope pos) 0 (.ref it) (.ref D) (compEnvC scope (cellsFrom (s3.heap.objs.size + 1) scope.names (cloFrom X.env.cells scope.names [])) s3.heap.objs.size X.env)) (compPost (model X.prog X.w) X.A X.xe use Qf (.ref D) s3.heap.objs.size) { s3 with heap := pushCells (s3.heap.push { cls := .type "dict", data := .dict #[] }) scope.names }
  have nfp : ∀ b ∈ fp, (upd H2 D (SetO X.w D (fun _ => false) 0)) b = none := fun b hb => (f3 b hb).1.1
  generalize hce : compEnvC scope (cellsFrom (s3.heap.objs.size + 1) scope.names (cloFrom X.env.cells scope.names [])) s3.heap.objs.size X.env = ce at I4 pg pt pe ⊢
  have cL : ce.locals = s3.heap.objs.size := by subst hce; rfl
  generalize hH3 : upd H2 D (SetO X.w D (fun _ => false) 0) = H3 at I3 I4 pg pt pe w0 nfp f3
  generalize hs4 : ({ s3 with heap := pushCells (s3.heap.push { cls := .type "dict", data := .dict #[] }) scope.names } : Shared) = s4 at I4 ⊢
  have st4 : tn 0 s4.heap := T.keep _ _ _ st3 fun b _ o e => by rw [← hs4]; exact pushCells_keeps _ _ _ _ (Heap.get?_push_of_some _ e)
  have stat : ∀ {σ' : St} {H' : Hp} {s' : Shared}, Inv (X.blk s3 H3 scope ce fp) [] σ' H' s' → (∀ b ∈ fp, H' b = none) → ∀ b ∈ fp, FpOk (X.blk s3 H3 scope ce fp) [] H' b := fun {σ' H' s'} I' hn b hb =>
    ⟨hn b hb, (I'.ok.exf b hb).1, I'.ok.exfs b hb, .inl hb, fun x c e => (I'.ok.exf b hb).2 x c e, fun p hp => absurd (show p ∈ ([] : List (Addr × Obj)) ++ [] from hp) (by simp)⟩
  have loop : codeAny (model X.prog X.w) X.A (.compLoop (.SetComp elt [⟨tg, iter, ifs, 0⟩] scope pos) 0 (.ref it) (.ref D) ce) (compPost (model X.prog X.w) X.A X.xe use Qf (.ref D) s3.heap.objs.size) s4 := by
    refine compLoopS_any (fun n s' => ∃ i H', Inv (X.blk s3 H3 scope ce fp) [] (wipe σ (own.map (·.2))) H' s' ∧ tn i s'.heap ∧ (∀ b ∈ fp, H' b = none) ∧ W i n H') ?_ m0 ⟨0, H3, I4, st4, nfp, w0⟩
    rintro n s5 ⟨i, H5, I5, st5, n5, w5⟩
    rcases turn i n H5 w5 with ⟨stop, qq⟩ | ⟨go, Nx, hNx, step⟩
    · have td := T.done (X.blk s3 H3 scope ce fp) rfl rfl rfl hc i [] s5 _ H5 (fun _ _ => False) I5 (stat I5 n5) st5 stop
      refine thnF td fun r s6 ⟨hr, I6⟩ => ?_
      subst hr
      -- back in the def's context
      have I7 : Inv X pins σ H5 s6 := I3.call' (ch := fp) I6.os I6.base I6.hok I6.bare fun b hb => ⟨(f3 b hb).1.2.2.2.1, (f3 b hb).1.2.1, (f3 b hb).1.2.2.2.2.1, (f3 b hb).1.2.2.2.2.2⟩
      have nC : H5 s3.heap.objs.size = none := by
        have z : H5 ce.locals = none := I6.free
        rw [cL] at z
        exact z
      obtain ⟨m, hn, _⟩ := I6.loc
      have hn : s6.heap.Ns ce.locals m := hn
      rw [cL] at hn
      exact hRR D s3.heap.objs.size s6 m H5 I7 qq hn (I3.fpOk (Nat.le_refl _) nC)
    · have ti := T.item (X.blk s3 H3 scope ce fp) rfl rfl rfl hc i [] s5 _ H5 (fun _ _ => False) I5 (stat I5 n5) st5 go
      refine thnF ti fun r s6 ⟨u, hr, h6⟩ => ?_
      subst hr
      refine thnF h6 fun _ s7 ⟨x, H7, I7, r7, y7, st7, n7⟩ => ?_
      have I7' := I7.pinned (stat I7 n7) (T.obj _ _ st7)
      refine thnF (pg.run _ s7 _ H7 x u _ I7' r7 (step x H7 y7)) fun _ s8 ⟨σ8, H8, I8, hw8, q8⟩ => ?_
      refine thnF (pt.run _ s8 σ8 H8 _ I8 q8) fun b s9 ⟨H9, I9, q9⟩ => ?_
      -- the turn's end
      have fin : ∀ {s' : Shared} {H' : Hp}, Inv (X.blk s3 H3 scope ce fp) ([] ++ pinsAt fp s7.heap) σ8 H' s' → Nx H' → ∃ m, m < n ∧ ∃ i H', Inv (X.blk s3 H3 scope ce fp) [] (wipe σ (own.map (·.2))) H' s' ∧ tn i s'.heap ∧ (∀ b ∈ fp, H' b = none) ∧ W i m H' := fun {s' H'} I' nx => by
        obtain ⟨m', hm, w'⟩ := hNx H' nx
        have pin' : ∀ b ∈ fp, ∀ o, s7.heap.get? b = some o → s'.heap.get? b = some o ∧ H' b = none := fun b hb o e =>
          let z := I'.pin (b, o) (List.mem_append_right _ (List.mem_append_right _ (mem_pinsAt hb e)))
          ⟨z.1, z.2.1⟩
        have hl : (wipe σ (own.map (·.2))).length = σ8.length := by rw [← hw8, wipe_length]
        refine ⟨m', hm, i + 1, H', (I'.unpinned (pins := [])).weak hl (fun j v e => ?_), T.keep _ _ _ st7 fun b hb o e => (pin' b hb o e).1, fun b hb => ?_, w'⟩
        · rw [← hw8] at e
          exact (wipe_some e).1
        · obtain ⟨o, e, _⟩ := T.obj _ _ st7 b hb
          exact (pin' b hb o e).2
      cases b with
      | false =>
        simp only [Bool.false_eq_true, if_false] at q9 ⊢
        exact fin I9 q9
      | true =>
        simp only [if_true] at q9 ⊢
        refine thnF (pe.run _ s9 σ8 H9 _ I9 q9) fun z s10 ⟨yv, H10, I10, r10, cb, S0, n0, ey, hD10, hz10, nx⟩ => ?_
        subst ey
        obtain ⟨tk, rfl⟩ := (show ∃ t, z = Value.int cb t from r10)
        exact addI_ok (X := X.blk s3 H3 scope ce fp) I10 hD10 hz10 fun s11 I11 => fin I11 nx
  exact codeAny_compStart_set loop (T.self X.A 0 _ _ _ st4 loop)
/-- as a value -/
theorem pe_scI {elt tg iter : Expr} {ifs : List Expr} {scope : Scope} {own : List (Str × Nat)} {pos : Pos} {wi : TI} {g : TG} {tt : TT} {te : TE} (hc : X.calm = true) (hN : X.N.Nodup) (hi : PI X tg iter wi) (ok : BlkOk X.N X.env.scope scope own)
    (hg : ∀ (s : Shared) (H : Hp) (C : Addr) (cl : List (Str × Addr)) (fp : List Addr), PG (X.blk s H scope (compEnvC scope cl C X.env) fp) tg g) (ht : ∀ (s : Shared) (H : Hp) (C : Addr) (cl : List (Str × Addr)) (fp : List Addr), PTs (X.blk s H scope (compEnvC scope cl C X.env) fp) ifs tt)
    (he : ∀ (s : Shared) (H : Hp) (C : Addr) (cl : List (Str × Addr)) (fp : List Addr), PE (X.blk s H scope (compEnvC scope cl C X.env) fp) elt te) (hs : ∀ x, foldedSetIterable iter X.env x = pure x := by intro _; rfl) :
    PE X (.SetComp elt [⟨tg, iter, ifs, 0⟩] scope pos) (tScI X.w wi g tt te (own.map (·.2))) := by
  refine ⟨fun pins s σ H Q I h => ?_⟩
  rw [eval_SetComp]
  refine scI_core hc hN I hi ok hg ht he hs h fun D C s' m H' I' q hn f => ⟨m, hn, fun h'' sb => ?_⟩
  obtain ⟨f0, f1, f2, f3, f4, f5⟩ := f
  exact ⟨.ref D, H', I'.turned (t' := s'.toks) (fun b o hb e => (sb.2 b hb).trans e) f0 f1 f3 f4 f5, rfl, q⟩

end
section
variable {P : Program} {w : World} {A : Around} {E : Value → Shared → Prop} {s : Shared}
set_option maxHeartbeats 3200000 in
theorem call_set_listI {l : Addr} {items : Array Value} (ns : List Int) {Q : Value → Shared → Prop} (hh : A.handled = none) (hl : s.heap.IsList l items) (hit : IntsAre items.toList ns) (hb : ns.length + 1 < scanBound)
    (h : ∀ (h' : Heap) (tk c : Nat), SetR w h' s.heap.objs.size (fun j => decide (j ∈ ns)) c → c ≤ ns.length → (∀ b o, s.heap.get? b = some o → h'.get? b = some o) → Q (.ref s.heap.objs.size) { s with heap := h', toks := tk }) :
    wpAny (model P w) A (call (.type "set") [.ref l]) Q E s := by
  have hisz : items.size = ns.length := by
    have q := IntsAre.length hit
    rw [Array.length_toList] at q
    exact q
  obtain ⟨c, tl, hmro⟩ := F.called_set.mro
  have hmade := F.called_set.made
  have hsub := F.called_set.sub
  refine wpAny_call (codeAny_of_tree ?_)
  show wpAny _ _ (callAny (.type "set") _) _ _ _
  refine wpAny_pure ⟨Code.quiet_builtin _ (by decide +kernel), codeAny_builtin F.entry_type_call ?_⟩
  rw [Around.under_plain (weight_type_call_type "set" [.ref l] []) rfl]
  have h1 := F.called_set.notType
  have h2 := F.called_set.canCreate
  have hct := F.typeCall_set_1 (.ref l)
  repeat (any_goals (first | assumption | wp_step))

  refine codeAny_mono (code_set_led1 (.ref l) (E := E) (Q₁ := fun obj s₁ => obj = .ref s.heap.objs.size ∧ s₁ = { s with heap := s.heap.push { cls := .type "set", dict := none, data := .set #[] 0 (.fresh 0 0 (!w.params.followText "set-order")) } }) ⟨rfl, rfl⟩) fun r s₁ hr => ?_
  cases r with
  | error e => exact hr
  | ok fl =>
    cases fl with
    | ret obj =>
      obtain ⟨rfl, rfl⟩ := hr
      have hS : (s.heap.push { cls := .type "set", dict := none, data := .set #[] 0 (.fresh 0 0 (!w.params.followText "set-order")) }).get? s.heap.objs.size = some { cls := .type "set", dict := none, data := .set #[] 0 (.fresh 0 0 (!w.params.followText "set-order")) } := Heap.get?_push_size _ rfl
      have hT : Shared.TypeIs { s with heap := s.heap.push { cls := .type "set", dict := none, data := .set #[] 0 (.fresh 0 0 (!w.params.followText "set-order")) } } (.ref s.heap.objs.size) "set" := ⟨_, hS, rfl⟩
      have hli := F.called_set.init.lookup
      have hbi := F.called_set.init.bind (.ref s.heap.objs.size)
      repeat (any_goals (first | assumption | wp_step))

      refine codeAny_mono (codeAny_call_builtin (R := wants (fun r s₂ => r = .none ∧ ∃ h' tk c, s₂ = { s with heap := h', toks := tk } ∧ SetR w h' s.heap.objs.size (fun j => decide (j ∈ ns)) c ∧ c ≤ ns.length ∧
          (∀ b o, s.heap.get? b = some o → h'.get? b = some o)) E) F.called_set.init.plain F.entry_set_init (check_set_init_1 hT ?_)) fun r₂ s₂ hr₂ => ?_
      · obtain ⟨ol, hol, hcl, nl, hdl⟩ := hl
        obtain ⟨ocls, odict, odata, oslots⟩ := ol
        simp only at hcl hdl
        subst hcl; subst hdl
        have hol' : (s.heap.push { cls := .type "set", dict := none, data := .set #[] 0 (.fresh 0 0 (!w.params.followText "set-order")) }).get? l = some { cls := .type "list", dict := odict, data := .seq items nl, slots := oslots } := Heap.get?_push_of_some _ hol
        have hsls := F.sub_list_set
        have hslf := F.sub_list_frozenset
        have hne : (Value.type "list" == Value.type "dict") = false := by decide
        have hl1 : (s.heap.push { cls := .type "set", dict := none, data := .set #[] 0 (.fresh 0 0 (!w.params.followText "set-order")) }).IsList l items := ⟨_, hol', rfl, nl, rfl⟩
        unfold Builtin.«set.__init__» noKeywords Builtin.Frozenset.updateFrom
        generalize hPI : pyIter = PI
        wp_walk
        subst hPI

        refine wpAny_pyIter_list hl1 ?_
        refine wpAny_bind (wpAny_runValue ?_)
        have hlS : l < s.heap.objs.size := Heap.lt_size hol
        have hh3 : A.in1.in1.in1.handled = none := by simp [hh]
        have hz1 : (s.heap.push { cls := .type "set", dict := none, data := .set #[] 0 (.fresh 0 0 (!w.params.followText "set-order")) }).objs.size = s.heap.objs.size + 1 := Heap.size_push ..
        have hneI : l ≠ (s.heap.push { cls := .type "set", dict := none, data := .set #[] 0 (.fresh 0 0 (!w.params.followText "set-order")) }).objs.size := by
          rw [Heap.size_push]; exact Nat.ne_of_lt (Nat.lt_succ_of_lt hlS)
        have hSf : s.heap.objs.size ∉ [(s.heap.push { cls := .type "set", dict := none, data := .set #[] 0 (.fresh 0 0 (!w.params.followText "set-order")) }).objs.size, l] := by
          rw [Heap.size_push]; simp only [List.mem_cons, List.mem_singleton, List.not_mem_nil, or_false, not_or]
          exact ⟨Nat.ne_of_lt (Nat.lt_succ_self _), Nat.ne_of_gt hlS⟩
        have hval : ∀ (i : Nat) (v : Value), items[i]? = some v → ∃ k t, ns[i]? = some k ∧ v = .int k t := fun i v hv => by
          have hi : i < ns.length := by rw [← hisz]; exact (Array.getElem?_eq_some_iff.mp hv).1
          obtain ⟨t, e⟩ := PyProof.Rows.IntsAre.int_at hit i v (by rw [Array.getElem?_toList]; exact hv)
          refine ⟨ns[i], t, List.getElem?_eq_getElem hi, ?_⟩
          rw [e, List.getD_eq_getElem?_getD, List.getElem?_eq_getElem hi] <;> rfl
        refine set_update_ints ((Walks.list hh3 _ l hneI items).toS) s.heap.objs.size
          hSf ns hisz hb hval (items.size - 0) 0 _ (by omega) (Nat.zero_le _)
          ⟨⟨_, Heap.get?_push_size _ rfl, rfl, rfl⟩, (hl1.push _)⟩ ?hS0 ?hR
        case hS0 =>
          have hget : ((s.heap.push { cls := .type "set", dict := none, data := .set #[] 0 (.fresh 0 0 (!w.params.followText "set-order")) }).push { cls := .type "list_iterator", data := .fields #[.ref l, .int 0 0] }).get? s.heap.objs.size
              = some { cls := .type "set", dict := none, data := .set #[] 0 (.fresh 0 0 (!w.params.followText "set-order")) } := Heap.get?_push_of_some _ hS
          exact ⟨0, Nat.le_refl 0, setR_new_at hget⟩
        case hR =>
          intro s' c' hm hc' hS'
          obtain ⟨h', g2, d', tk', os'⟩ := s'
          have eg : g2 = s.gens := hm.gens
          have ed : d' = s.drawn := hm.drawn
          have eo : os' = s.os := hm.os
          subst eg; subst ed; subst eo
          show wpAny _ _ _ _ _ _
          refine wpAny_pure ?_
          show wpAny _ _ (ret Value.none) _ _ _
          rw [hisz] at hc'
          refine wpAny_pure ⟨rfl, h', tk', c', rfl, hS', hc', fun b o e => ?_⟩
          have hb0 : b < s.heap.objs.size := Heap.lt_size e
          have hb1 : b ≠ s.heap.objs.size := Nat.ne_of_lt hb0
          have hb2 : b ≠ (s.heap.push { cls := .type "set", dict := none, data := .set #[] 0 (.fresh 0 0 (!w.params.followText "set-order")) }).objs.size := by
            rw [Heap.size_push]; exact Nat.ne_of_lt (Nat.lt_succ_of_lt hb0)
          exact hm.heap b o (by simp only [List.mem_cons, List.mem_singleton, List.not_mem_nil, or_false, not_or]; exact ⟨hb1, hb2⟩) (Heap.get?_push_of_some _ (Heap.get?_push_of_some _ e))

      · cases r₂ with
        | error e => exact hr₂
        | ok fl₂ =>
          cases fl₂ with
          | ret r =>
            obtain ⟨rfl, h', tk, c', rfl, hS', hc', hk'⟩ := hr₂
            repeat (any_goals (first | assumption | wp_step))
            exact h _ _ _ hS' hc' hk'
          | _ => exact hr₂.elim
    | _ => exact hr.elim

end
end Dl

namespace Dl
open PySem PySem.Spec L2 PpSet
open PyProof.Rows hiding St
/-! ### set comprehensions of ints with two fors: turned from the library's of lists -/
theorem scTurn2_out (elt t0 i0 t1 i1 : Expr) (ifs0 ifs1 : List Expr) (scope : Scope) (pos : Pos) (it acc : Value) (env : Env) :
    compTurn (.SetComp elt [⟨t0, i0, ifs0, 0⟩, ⟨t1, i1, ifs1, 0⟩] scope pos) 0 it acc env = (do
      standAt i0.pos
      match ← pyNext it with
      | none => pure (.done .next)
      | some v =>
        letOwnedTupleGo t0 it v
        assign t0 env v
        let mut ok := true
        for c in ifs0 do
          if ok then ok ← isTrue c env (eval c env)
        if ok then
          let x ← eval i1 env
          standAt i1.pos
          let x ← foldedSetIterable i1 env x
          let _ ← runOwn (.compStart (.SetComp elt [⟨t0, i0, ifs0, 0⟩, ⟨t1, i1, ifs1, 0⟩] scope pos) 1 (← holding [x] (pyIter x)) acc env) env
        again (.compLoop (.SetComp elt [⟨t0, i0, ifs0, 0⟩, ⟨t1, i1, ifs1, 0⟩] scope pos) 0 it acc env)) := by rfl
theorem scTurn2_in (elt t0 i0 t1 i1 : Expr) (ifs0 ifs1 : List Expr) (scope : Scope) (pos : Pos) (it acc : Value) (env : Env) :
    compTurn (.SetComp elt [⟨t0, i0, ifs0, 0⟩, ⟨t1, i1, ifs1, 0⟩] scope pos) 1 it acc env = (do
      standAt i1.pos
      match ← pyNext it with
      | none => pure (.done .next)
      | some v =>
        letOwnedTupleGo t1 it v
        assign t1 env v
        let mut ok := true
        for c in ifs1 do
          if ok then ok ← isTrue c env (eval c env)
        if ok then
          (do let v ← eval elt env; standAt elt.pos; let _ ← call (.builtin "set.add") [acc, v])
        again (.compLoop (.SetComp elt [⟨t0, i0, ifs0, 0⟩, ⟨t1, i1, ifs1, 0⟩] scope pos) 1 it acc env)) := by rfl

section
variable {prog : Program} {w : World} {A : Around} {R : Result → Shared → Prop} {s : Shared} {elt t0 i0 t1 i1 : Expr} {ifs0 ifs1 : List Expr} {scope : Scope} {pos : Pos} {it acc : Value} {env : Env}
/-- the loop of the first clause -/
theorem scLoop2_out (hs : ∀ x, foldedSetIterable i1 env x = pure x) (I : Nat → Shared → Prop)
    (turn : ∀ n s, I n s → wpAny (model prog w) A (pyNext it) (fun r s₁ => match r with
      | none => R (.ok .next) s₁
      | some v => wpAny (model prog w) A (letOwnedTupleGo t0 it v) (fun _ s₁' => wpAny (model prog w) A (assign t0 env v) (fun _ s₂ =>
          wpAny (model prog w) A (forIn ifs0 true fun c r => if r = true then do let ok ← isTrue c env (eval c env); pure (ForInStep.yield ok) else pure (ForInStep.yield r)) (fun ok s₃ =>
            if ok = true then wpAny (model prog w) A (eval i1 env) (fun x s₄ => wpAny (model prog w) A (pyIter x) (fun it1 s₅ =>
              codeAny (model prog w) A (.compStart (.SetComp elt [⟨t0, i0, ifs0, 0⟩, ⟨t1, i1, ifs1, 0⟩] scope pos) 1 it1 acc env) (fun r s' => match r with
                | .ok _ => ∃ m, m < n ∧ I m s'
                | .error _ => False) s₅) (notedBy (model prog w) A env fun e s' => R (.error e) s') s₄) (notedBy (model prog w) A env fun e s' => R (.error e) s') s₃
            else ∃ m, m < n ∧ I m s₃) (notedBy (model prog w) A env fun e s' => R (.error e) s') s₂) (notedBy (model prog w) A env fun e s' => R (.error e) s') s₁') (notedBy (model prog w) A env fun e s' => R (.error e) s') s₁) (notedBy (model prog w) A env fun e s' => R (.error e) s') s)
    (n : Nat) (h : I n s) :
    codeAny (model prog w) A (.compLoop (.SetComp elt [⟨t0, i0, ifs0, 0⟩, ⟨t1, i1, ifs1, 0⟩] scope pos) 0 it acc env) R s := by
  refine codeAny_loop rfl I (fun n s hI => ?_) n h
  show wpAny _ A ((compTurn (.SetComp elt [⟨t0, i0, ifs0, 0⟩, ⟨t1, i1, ifs1, 0⟩] scope pos) 0 it acc env).onRaise (fun x => do noteFrame x env; theTreesLotGoes x)) _ _ s
  refine wpAny_noted ?_
  rw [scTurn2_out]
  refine wpAny_bind (wpAny_standAt (wpAny_bind (wpAny_mono (turn n s hI) (fun r s₁ h₁ => ?_) fun _ _ h' => h')))
  cases r with
  | none => exact wpAny_pure h₁
  | some v =>
    refine wpAny_bind (wpAny_mono h₁ (fun _ s₁' h₁' => ?_) fun _ _ h' => h')
    refine wpAny_bind (wpAny_mono h₁' (fun _ s₂ h₂ => wpAny_bind (wpAny_mono h₂ (fun ok s₃ h₃ => ?_) fun _ _ h' => h')) fun _ _ h' => h')
    cases ok with
    | false => exact wpAny_pure ⟨rfl, h₃⟩
    | true =>
      refine wpAny_bind (wpAny_mono h₃ (fun x s₄ h₄ => ?_) fun _ _ h' => h')
      refine wpAny_bind (wpAny_standAt (wpAny_bind (wpAny_of_eq (hs x) (wpAny_bind (wpAny_holding (wpAny_mono h₄ (fun it1 s₅ h₅ => ?_) fun _ _ h' => h'))))))
      refine wpAny_bind (wpAny_runOwn ?_)
      rw [Around.mark_none]
      refine codeAny_mono h₅ fun r s' hr => ?_
      cases r with
      | ok f =>
        first
          | exact wpAny_pure ⟨rfl, hr⟩
          | exact wpAny_bind (wpAny_pure (wpAny_pure ⟨rfl, hr⟩))
      | error e => exact hr.elim
/-- the loop of the second -/
theorem scLoop2_in (I : Nat → Shared → Prop)
    (turn : ∀ n s, I n s → wpAny (model prog w) A (pyNext it) (fun r s₁ => match r with
      | none => R (.ok .next) s₁
      | some v => wpAny (model prog w) A (letOwnedTupleGo t1 it v) (fun _ s₁' => wpAny (model prog w) A (assign t1 env v) (fun _ s₂ =>
          wpAny (model prog w) A (forIn ifs1 true fun c r => if r = true then do let ok ← isTrue c env (eval c env); pure (ForInStep.yield ok) else pure (ForInStep.yield r)) (fun ok s₃ =>
            if ok = true then wpAny (model prog w) A (eval elt env) (fun x s₄ =>
              wpAny (model prog w) A (call (.builtin "set.add") [acc, x]) (fun _ s₅ => ∃ m, m < n ∧ I m s₅) (notedBy (model prog w) A env fun e s' => R (.error e) s') s₄) (notedBy (model prog w) A env fun e s' => R (.error e) s') s₃
            else ∃ m, m < n ∧ I m s₃) (notedBy (model prog w) A env fun e s' => R (.error e) s') s₂) (notedBy (model prog w) A env fun e s' => R (.error e) s') s₁') (notedBy (model prog w) A env fun e s' => R (.error e) s') s₁) (notedBy (model prog w) A env fun e s' => R (.error e) s') s)
    (n : Nat) (h : I n s) :
    codeAny (model prog w) A (.compLoop (.SetComp elt [⟨t0, i0, ifs0, 0⟩, ⟨t1, i1, ifs1, 0⟩] scope pos) 1 it acc env) R s := by
  refine codeAny_loop rfl I (fun n s hI => ?_) n h
  show wpAny _ A ((compTurn (.SetComp elt [⟨t0, i0, ifs0, 0⟩, ⟨t1, i1, ifs1, 0⟩] scope pos) 1 it acc env).onRaise (fun x => do noteFrame x env; theTreesLotGoes x)) _ _ s
  refine wpAny_noted ?_
  rw [scTurn2_in]
  refine wpAny_bind (wpAny_standAt (wpAny_bind (wpAny_mono (turn n s hI) (fun r s₁ h₁ => ?_) fun _ _ h' => h')))
  cases r with
  | none => exact wpAny_pure h₁
  | some v =>
    refine wpAny_bind (wpAny_mono h₁ (fun _ s₁' h₁' => ?_) fun _ _ h' => h')
    refine wpAny_bind (wpAny_mono h₁' (fun _ s₂ h₂ => wpAny_bind (wpAny_mono h₂ (fun ok s₃ h₃ => ?_) fun _ _ h' => h')) fun _ _ h' => h')
    cases ok with
    | false => exact wpAny_pure ⟨rfl, h₃⟩
    | true =>
      exact wpAny_bind (wpAny_bind (wpAny_mono h₃ (fun x s₄ h₄ => wpAny_bind (wpAny_standAt (wpAny_bind (wpAny_mono h₄ (fun _ s₅ h₅ => wpAny_pure (wpAny_pure ⟨rfl, h₅⟩)) fun _ _ h' => h')))) fun _ _ h' => h'))
/-- the second clause's start -/
theorem scStart1_ok (h0 : codeAny (model prog w) A (.compLoop (.SetComp elt [⟨t0, i0, ifs0, 0⟩, ⟨t1, i1, ifs1, 0⟩] scope pos) 1 it acc env) R s)
    (h : wpAny (model prog w) A (pyIter it) (fun it' s' => codeAny (model prog w) A (.compLoop (.SetComp elt [⟨t0, i0, ifs0, 0⟩, ⟨t1, i1, ifs1, 0⟩] scope pos) 1 it' acc env) R s')
      (notedBy (model prog w) A env fun x s' => R (.error x) s') s) :
    codeAny (model prog w) A (.compStart (.SetComp elt [⟨t0, i0, ifs0, 0⟩, ⟨t1, i1, ifs1, 0⟩] scope pos) 1 it acc env) R s := by
  refine codeAny_of_tree ?_
  show wpAny _ _ ((compStart (.SetComp elt [⟨t0, i0, ifs0, 0⟩, ⟨t1, i1, ifs1, 0⟩] scope pos) 1 it acc env).onRaise (fun x => do noteFrame x env; standAt theWindowsPlace)) _ _ s
  refine wpAny_notedAt ?_
  unfold compStart
  show wpAny _ _ (ask >>= _) _ _ s
  refine wpAny_bind (wpAny_askSetting (wpAny_ite ?_))
  split
  · first
      | exact wpAny_bind (wpAny_pure (wpAny_pure (And.intro rfl h0)))
      | exact wpAny_pure (And.intro rfl h0)
  · first
      | exact wpAny_bind (wpAny_rule (wpAny_bind (wpAny_standAt (wpAny_bind (wpAny_mono h (fun it' s' h' => wpAny_pure (And.intro rfl h')) fun _ _ x => x)))))
      | (refine wpAny_bind (wpAny_rule ?_); show wpAny _ _ (standAt i1.pos >>= _) _ _ s; exact wpAny_bind (wpAny_standAt (wpAny_bind (wpAny_mono h (fun it' s' h' => wpAny_pure (And.intro rfl h')) fun _ _ x => x))))
end

section
variable {X : Cx}
set_option maxHeartbeats 3200000
def tSc2 (w : World) (wi : TI) (g : TG) (tt : TT) (wi1 : TI) (g1 : TG) (tt1 : TT) (te : TE) (vs vs1 : List Nat) : TE := fun σ H Q => wi σ H fun J H1 => ∀ D, H1 D = none → ∃ W : Nat → Nat → Hp → Prop, (∃ m, W 0 m (upd H1 D (SetO w D (fun _ => false) 0))) ∧ ∀ i m H, W i m H →
  (J.stop i H ∧ Q (.ref D) H) ∨ (J.go i H ∧ ∃ Nx : Hp → Prop, (∀ H', Nx H' → ∃ m', m' < m ∧ W (i + 1) m' H') ∧ ∀ x H', J.yld i H x H' → g x (wipe σ vs) H' fun σ2 H2 => wipe σ2 vs = wipe σ vs ∧ tt σ2 H2 fun b H3 =>
    if b = true then wi1 σ2 H3 fun J1 H4 => ∃ W1 : Nat → Nat → Hp → Prop, (∃ m, W1 0 m H4) ∧ ∀ j k H, W1 j k H →
      (J1.stop j H ∧ Nx H) ∨ (J1.go j H ∧ ∃ Nx1 : Hp → Prop, (∀ H', Nx1 H' → ∃ k', k' < k ∧ W1 (j + 1) k' H') ∧ ∀ x H', J1.yld j H x H' → g1 x (wipe σ2 vs1) H' fun σ3 H5 => wipe σ3 vs1 = wipe σ2 vs1 ∧ tt1 σ3 H5 fun b H6 =>
        if b = true then te σ3 H6 fun y H7 => ∃ (c : Int) (S : Int → Bool) (n : Nat), y = .int c ∧ H7 D = some (SetO w D S n) ∧ n + 1 < scanBound ∧ Nx1 (upd H7 D (SetO w D (fun j => S j || decide (j = c)) (if S c = true then n else n + 1))) else Nx1 H6)
    else Nx H3)

theorem sc2_core {pins : List (Addr × Obj)} {s : Shared} {σ : St} {H : Hp} {Q : VK} {elt tg iter tg1 iter1 : Expr} {ifs ifs1 : List Expr} {scope : Scope} {own : List (Str × Nat)} {vs1 : List Nat} {pos pos' : Pos} {wi wi1 : TI} {g g1 : TG} {tt tt1 : TT} {te : TE} {use : Option (Value → Sem Unit)} {Qf : Value → Shared → Prop}
    (hc : X.calm = true) (hN : X.N.Nodup) (I : Inv X pins σ H s) (hi : PI X tg iter wi) (ok : BlkOk X.N X.env.scope scope own) (hv : ∀ i ∈ vs1, i ∈ own.map (·.2))
    (hg : ∀ (s : Shared) (H : Hp) (C : Addr) (cl : List (Str × Addr)) (fp : List Addr), PG (X.blk s H scope (compEnvC scope cl C X.env) fp) tg g) (ht : ∀ (s : Shared) (H : Hp) (C : Addr) (cl : List (Str × Addr)) (fp : List Addr), PTs (X.blk s H scope (compEnvC scope cl C X.env) fp) ifs tt)
    (he : ∀ (s : Shared) (H : Hp) (C : Addr) (cl : List (Str × Addr)) (fp : List Addr), PE (X.blk s H scope (compEnvC scope cl C X.env) fp) elt te) (hs : ∀ x, foldedSetIterable iter X.env x = pure x)
    (hi1 : ∀ (s : Shared) (H : Hp) (C : Addr) (cl : List (Str × Addr)) (fp : List Addr), PI (X.blk s H scope (compEnvC scope cl C X.env) fp) tg1 iter1 wi1)
    (hg1 : ∀ (s : Shared) (H : Hp) (C : Addr) (cl : List (Str × Addr)) (fp : List Addr), PG (X.blk s H scope (compEnvC scope cl C X.env) fp) tg1 g1)
    (ht1 : ∀ (s : Shared) (H : Hp) (C : Addr) (cl : List (Str × Addr)) (fp : List Addr), PTs (X.blk s H scope (compEnvC scope cl C X.env) fp) ifs1 tt1)
    (hs1 : ∀ env x, foldedSetIterable iter1 env x = pure x)
    (h : tSc2 X.w wi g tt wi1 g1 tt1 te (own.map (·.2)) vs1 σ H Q)
    (hRR : ∀ D C s' m H', Inv X pins σ H' s' → Q (.ref D) H' → s'.heap.Ns C m → FpOk X pins H' C → compPost (model X.prog X.w) X.A X.xe use Qf (.ref D) C (.ok .next) s') :
    wpAny (model X.prog X.w) X.A (comprehension (.SetComp elt [⟨tg, iter, ifs, 0⟩, ⟨tg1, iter1, ifs1, 0⟩] scope pos) scope X.env pos' (newSet (.type "set")) false (eval iter X.env) use) Qf X.xe s := by
  have hfree : ∀ y ∈ scope.names, y.2 = .free → ∃ c, X.env.cells.lookup y.1 = some c := fun y hy e => by
    rcases ok.free y hy e with k | k
    · exact I.ok.has _ (.inl k)
    · exact I.ok.has _ (.inr k)
  refine wpAny_comprehension_free (use := use) rfl hs (closure_ok hfree) ok.kind (fun y hy e => by rw [ok.uniq y hy, e])
    (thn (hi.run pins s σ H _ I h) fun xv s1 hx => thn hx fun itv s2 h2 => ?_)
  obtain ⟨it, fp, tn, J, H2, e, I2, T, st2, f2, q⟩ := h2
  subst e
  refine newSet_ok (newEnv_comp ?_)
  generalize hD : s2.heap.objs.size = D
  have hDn : H2 D = none := I2.hok.fresh (Nat.le_of_eq hD)
  obtain ⟨W, ⟨m0, w0⟩, turn⟩ := q D hDn
  -- the new list
  generalize hs3 : ({ s2 with heap := s2.heap.push { cls := .type "set", dict := none, data := .set #[] 0 (.fresh 0 0 (!X.w.params.followText "set-order")) } } : Shared) = s3
  have I3 : Inv X pins σ (upd H2 D (SetO X.w D (fun _ => false) 0)) s3 := by
    rw [← hs3]
    refine I2.laid (t' := s2.toks) (fun b o e => Heap.get?_push_of_some _ e) (Nat.le_of_eq hD) ?_
    rw [← hD]
    exact setO_new (setR_fresh X.w)
  have h3 : s3.heap = s2.heap.push { cls := .type "set", dict := none, data := .set #[] 0 (.fresh 0 0 (!X.w.params.followText "set-order")) } := by rw [← hs3]
  have sz : ∀ b ∈ fp, b < s2.heap.objs.size := fun b hb => by
    obtain ⟨o, e, _⟩ := T.obj _ _ st2 b hb
    exact Heap.lt_size e
  have f3 : ∀ b ∈ fp, FpOk X pins (upd H2 D (SetO X.w D (fun _ => false) 0)) b ∧ b < s3.heap.objs.size := fun b hb => by
    have hlt := sz b hb
    refine ⟨⟨?_, (f2 b hb).2⟩, by rw [h3, Heap.size_push]; exact Nat.lt_succ_of_lt hlt⟩
    rw [upd_ne (by rw [← hD]; exact Nat.ne_of_lt hlt)]
    exact (f2 b hb).1
  have st3 : tn 0 s3.heap := T.keep _ _ _ st2 fun b _ o e => by rw [h3]; exact Heap.get?_push_of_some _ e
  have I4 := block_start I3 ok hN f3
  have pg := hg s3 (upd H2 D (SetO X.w D (fun _ => false) 0)) s3.heap.objs.size (cellsFrom (s3.heap.objs.size + 1) scope.names (cloFrom X.env.cells scope.names [])) fp
  have pt := ht s3 (upd H2 D (SetO X.w D (fun _ => false) 0)) s3.heap.objs.size (cellsFrom (s3.heap.objs.size + 1) scope.names (cloFrom X.env.cells scope.names [])) fp
  have pe := he s3 (upd H2 D (SetO X.w D (fun _ => false) 0)) s3.heap.objs.size (cellsFrom (s3.heap.objs.size + 1) scope.names (cloFrom X.env.cells scope.names [])) fp
  have pi1 := hi1 s3 (upd H2 D (SetO X.w D (fun _ => false) 0)) s3.heap.objs.size (cellsFrom (s3.heap.objs.size + 1) scope.names (cloFrom X.env.cells scope.names [])) fp
  have pg1 := hg1 s3 (upd H2 D (SetO X.w D (fun _ => false) 0)) s3.heap.objs.size (cellsFrom (s3.heap.objs.size + 1) scope.names (cloFrom X.env.cells scope.names [])) fp
  have pt1 := ht1 s3 (upd H2 D (SetO X.w D (fun _ => false) 0)) s3.heap.objs.size (cellsFrom (s3.heap.objs.size + 1) scope.names (cloFrom X.env.cells scope.names [])) fp
  show codeAny _ _ (.compStart (.SetComp elt [⟨tg, iter, ifs, 0⟩, ⟨tg1, iter1, ifs1, 0⟩] scope pos) 0 (.ref it) (.ref D) (compEnvC scope (cellsFrom (s3.heap.objs.size + 1) scope.names (cloFrom X.env.cells scope.names [])) s3.heap.objs.size X.env)) (compPost (model X.prog X.w) X.A X.xe use Qf (.ref D) s3.heap.objs.size) { s3 with heap := pushCells (s3.heap.push { cls := .type "dict", data := .dict #[] }) scope.names }
  have nfp : ∀ b ∈ fp, (upd H2 D (SetO X.w D (fun _ => false) 0)) b = none := fun b hb => (f3 b hb).1.1
  generalize hce : compEnvC scope (cellsFrom (s3.heap.objs.size + 1) scope.names (cloFrom X.env.cells scope.names [])) s3.heap.objs.size X.env = ce at I4 pg pt pe pi1 pg1 pt1 ⊢
  have cL : ce.locals = s3.heap.objs.size := by subst hce; rfl
  generalize hH3 : upd H2 D (SetO X.w D (fun _ => false) 0) = H3 at I3 I4 pg pt pe pi1 pg1 pt1 w0 nfp f3
  generalize hs4 : ({ s3 with heap := pushCells (s3.heap.push { cls := .type "dict", data := .dict #[] }) scope.names } : Shared) = s4 at I4 ⊢
  have st4 : tn 0 s4.heap := T.keep _ _ _ st3 fun b _ o e => by rw [← hs4]; exact pushCells_keeps _ _ _ _ (Heap.get?_push_of_some _ e)
  have stat : ∀ {σ' : St} {H' : Hp} {s' : Shared}, Inv (X.blk s3 H3 scope ce fp) [] σ' H' s' → (∀ b ∈ fp, H' b = none) → ∀ b ∈ fp, FpOk (X.blk s3 H3 scope ce fp) [] H' b := fun {σ' H' s'} I' hn b hb =>
    ⟨hn b hb, (I'.ok.exf b hb).1, I'.ok.exfs b hb, .inl hb, fun x c e => (I'.ok.exf b hb).2 x c e, fun p hp => absurd (show p ∈ ([] : List (Addr × Obj)) ++ [] from hp) (by simp)⟩
  have loop : codeAny (model X.prog X.w) X.A (.compLoop (.SetComp elt [⟨tg, iter, ifs, 0⟩, ⟨tg1, iter1, ifs1, 0⟩] scope pos) 0 (.ref it) (.ref D) ce) (compPost (model X.prog X.w) X.A X.xe use Qf (.ref D) s3.heap.objs.size) s4 := by
    refine scLoop2_out (hs1 ce) (fun n s' => ∃ i H', Inv (X.blk s3 H3 scope ce fp) [] (wipe σ (own.map (·.2))) H' s' ∧ tn i s'.heap ∧ (∀ b ∈ fp, H' b = none) ∧ W i n H') ?_ m0 ⟨0, H3, I4, st4, nfp, w0⟩
    rintro n s5 ⟨i, H5, I5, st5, n5, w5⟩
    rcases turn i n H5 w5 with ⟨stop, qq⟩ | ⟨go, Nx, hNx, step⟩
    · have td := T.done (X.blk s3 H3 scope ce fp) rfl rfl rfl hc i [] s5 _ H5 (fun _ _ => False) I5 (stat I5 n5) st5 stop
      refine thnF td fun r s6 ⟨hr, I6⟩ => ?_
      subst hr
      -- back in the def's context
      have I7 : Inv X pins σ H5 s6 := I3.call' (ch := fp) I6.os I6.base I6.hok I6.bare fun b hb => ⟨(f3 b hb).1.2.2.2.1, (f3 b hb).1.2.1, (f3 b hb).1.2.2.2.2.1, (f3 b hb).1.2.2.2.2.2⟩
      have nC : H5 s3.heap.objs.size = none := by
        have z : H5 ce.locals = none := I6.free
        rw [cL] at z
        exact z
      obtain ⟨m, hn, _⟩ := I6.loc
      have hn : s6.heap.Ns ce.locals m := hn
      rw [cL] at hn
      exact hRR D s3.heap.objs.size s6 m H5 I7 qq hn (I3.fpOk (Nat.le_refl _) nC)
    · have ti := T.item (X.blk s3 H3 scope ce fp) rfl rfl rfl hc i [] s5 _ H5 (fun _ _ => False) I5 (stat I5 n5) st5 go
      refine thnF ti fun r s6 ⟨u, hr, h6⟩ => ?_
      subst hr
      refine thnF h6 fun _ s7 ⟨x, H7, I7, r7, y7, st7, n7⟩ => ?_
      have I7' := I7.pinned (stat I7 n7) (T.obj _ _ st7)
      refine thnF (pg.run _ s7 _ H7 x u _ I7' r7 (step x H7 y7)) fun _ s8 ⟨σ8, H8, I8, hw8, q8⟩ => ?_
      refine thnF (pt.run _ s8 σ8 H8 _ I8 q8) fun b s9 ⟨H9, I9, q9⟩ => ?_
      -- the turn's end, from any slots that know what the block knew at its start
      have fin : ∀ {σ9 : St} {s' : Shared} {H' : Hp}, Inv (X.blk s3 H3 scope ce fp) ([] ++ pinsAt fp s7.heap) σ9 H' s' → (wipe σ (own.map (·.2))).length = σ9.length → (∀ (j : Nat) v, (wipe σ (own.map (·.2)))[j]? = some (some v) → σ9[j]? = some (some v)) → Nx H' →
          ∃ m, m < n ∧ ∃ i H', Inv (X.blk s3 H3 scope ce fp) [] (wipe σ (own.map (·.2))) H' s' ∧ tn i s'.heap ∧ (∀ b ∈ fp, H' b = none) ∧ W i m H' := fun {σ9 s' H'} I' hl hk nx => by
        obtain ⟨m', hm, w'⟩ := hNx H' nx
        have pin' : ∀ b ∈ fp, ∀ o, s7.heap.get? b = some o → s'.heap.get? b = some o ∧ H' b = none := fun b hb o e =>
          let z := I'.pin (b, o) (List.mem_append_right _ (List.mem_append_right _ (mem_pinsAt hb e)))
          ⟨z.1, z.2.1⟩
        refine ⟨m', hm, i + 1, H', (I'.unpinned (pins := [])).weak hl hk, T.keep _ _ _ st7 fun b hb o e => (pin' b hb o e).1, fun b hb => ?_, w'⟩
        obtain ⟨o, e, _⟩ := T.obj _ _ st7 b hb
        exact (pin' b hb o e).2
      have hl8 : (wipe σ (own.map (·.2))).length = σ8.length := by rw [← hw8, wipe_length]
      have hk8 : ∀ (j : Nat) v, (wipe σ (own.map (·.2)))[j]? = some (some v) → σ8[j]? = some (some v) := fun j v e => by
        rw [← hw8] at e
        exact (wipe_some e).1
      have hk9 : ∀ (j : Nat) v, (wipe σ (own.map (·.2)))[j]? = some (some v) → (wipe σ8 vs1)[j]? = some (some v) := fun j v e => by
        rw [← hw8] at e
        obtain ⟨e1, e2⟩ := wipe_some e
        rw [wipe_out fun z => e2 (hv j z)]
        exact e1
      cases b with
      | false =>
        simp only [Bool.false_eq_true, if_false] at q9 ⊢
        exact fin I9 hl8 hk8 q9
      | true =>
        simp only [if_true] at q9 ⊢
        refine thnF (pi1.run _ s9 σ8 H9 _ I9 q9) fun xv s10 hx => thnF hx fun itv s11 h11 => ?_
        obtain ⟨it1, fp1, tn1, J1, H11, e1, I11, T1, st11, f11, W1, ⟨m1, w1⟩, turn1⟩ := h11
        subst e1
        -- the inner loop
        have stat1 : ∀ {H' : Hp}, (∀ b ∈ fp1, H' b = none) → ∀ b ∈ fp1, FpOk (X.blk s3 H3 scope ce fp) ([] ++ pinsAt fp s7.heap) H' b := fun hn b hb => ⟨hn b hb, (f11 b hb).2⟩
        have loop1 : codeAny (model X.prog X.w) X.A (.compLoop (.SetComp elt [⟨tg, iter, ifs, 0⟩, ⟨tg1, iter1, ifs1, 0⟩] scope pos) 1 (.ref it1) (.ref D) ce)
            (fun r s' => match r with
              | .ok _ => ∃ m, m < n ∧ ∃ i H', Inv (X.blk s3 H3 scope ce fp) [] (wipe σ (own.map (·.2))) H' s' ∧ tn i s'.heap ∧ (∀ b ∈ fp, H' b = none) ∧ W i m H'
              | .error _ => False) s11 := by
          refine scLoop2_in (fun k s' => ∃ j H', Inv (X.blk s3 H3 scope ce fp) ([] ++ pinsAt fp s7.heap) (wipe σ8 vs1) H' s' ∧ tn1 j s'.heap ∧ (∀ b ∈ fp1, H' b = none) ∧ W1 j k H') ?_ m1 ⟨0, H11, I11.weak (wipe_length _ _) (fun j v e => (wipe_some e).1), st11, fun b hb => (f11 b hb).1, w1⟩
          rintro k s12 ⟨j, H12, I12, st12, n12, w12⟩
          rcases turn1 j k H12 w12 with ⟨stop1, nx1⟩ | ⟨go1, Nx1, hNx1, step1⟩
          · refine thnF (T1.done (X.blk s3 H3 scope ce fp) rfl rfl rfl hc j _ s12 (wipe σ8 vs1) H12 (fun _ _ => False) I12 (stat1 n12) st12 stop1) fun r s13 ⟨hr, I13⟩ => ?_
            subst hr
            exact fin I13 (hl8.trans (wipe_length σ8 vs1).symm) hk9 nx1
          · refine thnF (T1.item (X.blk s3 H3 scope ce fp) rfl rfl rfl hc j _ s12 (wipe σ8 vs1) H12 (fun _ _ => False) I12 (stat1 n12) st12 go1) fun r s13 ⟨u1, hr, h13⟩ => ?_
            subst hr
            refine thnF h13 fun _ s14 ⟨x1, H14, I14, r14, y14, st14, n14⟩ => ?_
            have I14' := I14.pinned (stat1 n14) (T1.obj _ _ st14)
            refine thnF (pg1.run _ s14 (wipe σ8 vs1) H14 x1 u1 _ I14' r14 (step1 x1 H14 y14)) fun _ s15 ⟨σ15, H15, I15, hw15, q15⟩ => ?_
            refine thnF (pt1.run _ s15 σ15 H15 _ I15 q15) fun b1 s16 ⟨H16, I16, q16⟩ => ?_
            have fin1 : ∀ {s' : Shared} {H' : Hp}, Inv (X.blk s3 H3 scope ce fp) (([] ++ pinsAt fp s7.heap) ++ pinsAt fp1 s14.heap) σ15 H' s' → Nx1 H' → ∃ m, m < k ∧ ∃ j H', Inv (X.blk s3 H3 scope ce fp) ([] ++ pinsAt fp s7.heap) (wipe σ8 vs1) H' s' ∧ tn1 j s'.heap ∧ (∀ b ∈ fp1, H' b = none) ∧ W1 j m H' := fun {s' H'} I' nx => by
              obtain ⟨m', hm, w'⟩ := hNx1 H' nx
              have pin' : ∀ b ∈ fp1, ∀ o, s14.heap.get? b = some o → s'.heap.get? b = some o ∧ H' b = none := fun b hb o e =>
                let z := I'.pin (b, o) (List.mem_append_right _ (List.mem_append_right _ (mem_pinsAt hb e)))
                ⟨z.1, z.2.1⟩
              refine ⟨m', hm, j + 1, H', I'.unpinned.weak (by rw [← hw15, wipe_length]) (fun j v e => by rw [← hw15] at e; exact (wipe_some e).1), T1.keep _ _ _ st14 fun b hb o e => (pin' b hb o e).1, fun b hb => ?_, w'⟩
              obtain ⟨o, e, _⟩ := T1.obj _ _ st14 b hb
              exact (pin' b hb o e).2
            cases b1 with
            | false =>
              simp only [Bool.false_eq_true, if_false] at q16 ⊢
              exact fin1 I16 q16
            | true =>
              simp only [if_true] at q16 ⊢
              refine thnF (pe.run _ s16 σ15 H16 _ I16 q16) fun z s17 ⟨yv, H17, I17, r17, cb, S0, n0, ey, hD17, hz17, nx⟩ => ?_
              subst ey
              obtain ⟨tk, rfl⟩ := (show ∃ t, z = Value.int cb t from r17)
              exact addI_ok (X := X.blk s3 H3 scope ce fp) I17 hD17 hz17 fun s18 I18 => fin1 I18 nx
        exact scStart1_ok loop1 (T1.self X.A 0 _ _ _ st11 loop1)
  exact codeAny_compStart_set loop (T.self X.A 0 _ _ _ st4 loop)
theorem pe_sc2 {elt tg iter tg1 iter1 : Expr} {ifs ifs1 : List Expr} {scope : Scope} {own : List (Str × Nat)} {vs1 : List Nat} {pos : Pos} {wi wi1 : TI} {g g1 : TG} {tt tt1 : TT} {te : TE} (hc : X.calm = true) (hN : X.N.Nodup) (hi : PI X tg iter wi) (ok : BlkOk X.N X.env.scope scope own) (hv : ∀ i ∈ vs1, i ∈ own.map (·.2))
    (hg : ∀ (s : Shared) (H : Hp) (C : Addr) (cl : List (Str × Addr)) (fp : List Addr), PG (X.blk s H scope (compEnvC scope cl C X.env) fp) tg g) (ht : ∀ (s : Shared) (H : Hp) (C : Addr) (cl : List (Str × Addr)) (fp : List Addr), PTs (X.blk s H scope (compEnvC scope cl C X.env) fp) ifs tt)
    (hi1 : ∀ (s : Shared) (H : Hp) (C : Addr) (cl : List (Str × Addr)) (fp : List Addr), PI (X.blk s H scope (compEnvC scope cl C X.env) fp) tg1 iter1 wi1)
    (hg1 : ∀ (s : Shared) (H : Hp) (C : Addr) (cl : List (Str × Addr)) (fp : List Addr), PG (X.blk s H scope (compEnvC scope cl C X.env) fp) tg1 g1) (ht1 : ∀ (s : Shared) (H : Hp) (C : Addr) (cl : List (Str × Addr)) (fp : List Addr), PTs (X.blk s H scope (compEnvC scope cl C X.env) fp) ifs1 tt1)
    (he : ∀ (s : Shared) (H : Hp) (C : Addr) (cl : List (Str × Addr)) (fp : List Addr), PE (X.blk s H scope (compEnvC scope cl C X.env) fp) elt te) (hs : ∀ x, foldedSetIterable iter X.env x = pure x := by intro _; rfl) (hs1 : ∀ env x, foldedSetIterable iter1 env x = pure x := by intro _ _; rfl) :
    PE X (.SetComp elt [⟨tg, iter, ifs, 0⟩, ⟨tg1, iter1, ifs1, 0⟩] scope pos) (tSc2 X.w wi g tt wi1 g1 tt1 te (own.map (·.2)) vs1) := by
  refine ⟨fun pins s σ H Q I h => ?_⟩
  rw [eval_SetComp]
  refine sc2_core hc hN I hi ok hv hg ht he hs hi1 hg1 ht1 hs1 h fun D C s' m H' I' q hn f => ⟨m, hn, fun h'' sb => ?_⟩
  obtain ⟨f0, f1, f2, f3, f4, f5⟩ := f
  exact ⟨.ref D, H', I'.turned (t' := s'.toks) (fun b o hb e => (sb.2 b hb).trans e) f0 f1 f3 f4 f5, rfl, q⟩
end
end Dl

namespace Dl
open PySem PySem.Spec L2
open PyProof.Rows hiding St

/-! ### rising lists without twins -/
def insU (n : Int) : List Int → List Int
  | [] => [n]
  | m :: r => if n < m then n :: m :: r else if n = m then m :: r else m :: insU n r
def usort : List Int → List Int
  | [] => []
  | n :: r => insU n (usort r)
theorem insU_mem (n k : Int) : ∀ l : List Int, k ∈ insU n l ↔ k = n ∨ k ∈ l
  | [] => by simp [insU]
  | m :: r => by
    unfold insU
    split
    · simp
    · split
      · rename_i h
        subst h
        simp
      · rw [List.mem_cons, insU_mem n k r, List.mem_cons]
        constructor
        · rintro (h | h | h)
          · exact .inr (.inl h)
          · exact .inl h
          · exact .inr (.inr h)
        · rintro (h | h | h)
          · exact .inr (.inl h)
          · exact .inl h
          · exact .inr (.inr h)
theorem insU_sorted (n : Int) : ∀ l : List Int, l.Pairwise (· < ·) → (insU n l).Pairwise (· < ·)
  | [], _ => by simp [insU]
  | m :: r, h => by
    have h1 := List.pairwise_cons.mp h
    unfold insU
    split
    · rename_i hl
      refine List.pairwise_cons.mpr ⟨fun a ha => ?_, h⟩
      rcases List.mem_cons.mp ha with rfl | ha
      · exact hl
      · exact Int.lt_trans hl (h1.1 a ha)
    · split
      · exact h
      · rename_i h2 h3
        refine List.pairwise_cons.mpr ⟨fun a ha => ?_, insU_sorted n r h1.2⟩
        rcases (insU_mem n a r).mp ha with rfl | ha
        · omega
        · exact h1.1 a ha
theorem usort_mem (k : Int) : ∀ l : List Int, k ∈ usort l ↔ k ∈ l
  | [] => Iff.rfl
  | n :: r => by
    unfold usort
    rw [insU_mem, usort_mem k r, List.mem_cons]
theorem usort_sorted : ∀ l : List Int, (usort l).Pairwise (· < ·)
  | [] => .nil
  | n :: r => insU_sorted n _ (usort_sorted r)
theorem insU_len (n : Int) : ∀ l : List Int, (insU n l).length ≤ l.length + 1
  | [] => Nat.le_refl _
  | m :: r => by
    unfold insU
    split
    · exact Nat.le_refl _
    · split
      · exact Nat.le_succ _
      · have := insU_len n r
        rw [List.length_cons, List.length_cons]
        omega
theorem usort_len : ∀ l : List Int, (usort l).length ≤ l.length
  | [] => Nat.le_refl _
  | n :: r => by
    have h1 := insU_len n (usort r)
    have h2 := usort_len r
    show (insU n (usort r)).length ≤ r.length + 1
    omega
theorem rising_unique : ∀ {a b : List Int}, a.Pairwise (· < ·) → b.Pairwise (· < ·) → (∀ k, k ∈ a ↔ k ∈ b) → a = b
  | [], [], _, _, _ => rfl
  | [], y :: b, _, _, h => absurd ((h y).mpr List.mem_cons_self) (by simp)
  | x :: a, [], _, _, h => absurd ((h x).mp List.mem_cons_self) (by simp)
  | x :: a, y :: b, ha, hb, h => by
    have h1 := List.pairwise_cons.mp ha
    have h2 := List.pairwise_cons.mp hb
    have hxy : x = y := by
      rcases List.mem_cons.mp ((h x).mp List.mem_cons_self) with e | e
      · exact e
      · rcases List.mem_cons.mp ((h y).mpr List.mem_cons_self) with e2 | e2
        · exact e2.symm
        · have := h2.1 x e
          have := h1.1 y e2
          omega
    subst hxy
    congr 1
    refine rising_unique h1.2 h2.2 fun k => ⟨fun hk => ?_, fun hk => ?_⟩
    · rcases List.mem_cons.mp ((h k).mp (List.mem_cons_of_mem _ hk)) with e | e
      · have := h1.1 k hk
        omega
      · exact e
    · rcases List.mem_cons.mp ((h k).mpr (List.mem_cons_of_mem _ hk)) with e | e
      · have := h2.1 k hk
        omega
      · exact e
theorem usort_eq {ns ms : List Int} (h1 : ms.Pairwise (· < ·)) (h2 : ∀ k, k ∈ ms ↔ k ∈ ns) : ms = usort ns := rising_unique h1 (usort_sorted ns) fun k => (h2 k).trans (usort_mem k ns).symm
theorem usort_nodup (l : List Int) : (usort l).Nodup := (usort_sorted l).imp fun h => Int.ne_of_lt h
theorem usort_old {l : List Int} {v : Int} (h : v ∈ l) : usort (l ++ [v]) = usort l := (usort_eq (usort_sorted (l ++ [v])) fun k => by
  rw [usort_mem, List.mem_append, List.mem_singleton]
  exact ⟨fun h1 => h1.elim (fun q => q) fun q => q ▸ h, .inl⟩)
theorem usort_more {l : List Int} {v : Int} (h : v ∉ l) : (usort (l ++ [v])).length = (usort l).length + 1 := by
  have p : (usort (l ++ [v])).Perm (v :: usort l) := (List.perm_ext_iff_of_nodup (usort_nodup _) (List.nodup_cons.mpr ⟨fun q => h ((usort_mem v l).mp q), usort_nodup l⟩)).mpr fun k => by
    rw [usort_mem, List.mem_append, List.mem_singleton, List.mem_cons, usort_mem, or_comm]
  rw [p.length_eq, List.length_cons]

/-! ### sorted({..}) and sorted(set(..)) of ints -/
section
variable {X : Cx} {tg iter elt t : Expr} {scope : Scope} {z : Z} {pos pos' p : Pos} {own : List (Str × Nat)} {g : TG} {Q : Sl → Z → Prop}
/-- what a set comprehension of ints asks -/
def ScD (X : Cx) (elt t : Expr) (scope : Scope) (vs : List Nat) (g : TG) (Q : List Int → Z → Prop) : List Sl → (Z → Prop) → Z → Prop := fun ys G z1 => ys.length < 3000 ∧ G ⟨wipeZ z1.sl vs, z1.ob⟩ ∧ ∃ fs : List (Option Int), ys.length = fs.length ∧
  (∀ (i : Nat) (y : Sl) (o : Option Int), ys[i]? = some y → fs[i]? = some o → GD X.K vs g y ⟨wipeZ z1.sl vs, z1.ob⟩ fun z2 => ∀ s H C cl fp, WT (Blk X scope s H C cl fp) t z2 fun b z3 => b = o.isSome ∧ z3.ob = z1.ob ∧ ∀ d, o = some d → ∀ s H C cl fp, WE (Blk X scope s H C cl fp) elt z3 fun x z4 => x = .sh (.int d) ∧ z4.ob = z1.ob) ∧
  (usort (fs.filterMap _root_.id)).length < 64 ∧ Q (usort (fs.filterMap _root_.id)) z1
theorem sc_ok {P : List Int → Z → Prop} {c : Ct} {w : Wd} {σ : St} {k : VK} (hc : X.calm = true) (bb : B X.K c w σ z) (h : WI X tg iter z (ScD X elt t scope (own.map (·.2)) g P))
    (hk : ∀ ms z1 w1, B X.K c w1 σ z1 → w.Le w1 → P ms z1 → ∀ q, w1.H q = none → k (.ref q) (upd w1.H q (.lst (ms.map V.int)))) :
    tScI X.w (tI X tg iter) g (fun σ H Q => ∀ s H0 C cl fp, tTs (Blk X scope s H0 C cl fp) [t] σ H Q) (fun σ H Q => ∀ s H0 C cl fp, tE (Blk X scope s H0 C cl fp) elt σ H Q) (own.map (·.2)) σ w.H (fun x H1 => rSortedSet X.w [x] H1 k) := by
  refine h c w σ _ bb fun J ys G w1 z1 b1 l1 dw ⟨hyl, hG, fs, hl, hs, h64, hP⟩ D hD => ?_
  have as1 : Aside c w1 D := b1.asideNew hD
  refine ⟨fun i m H' => m = ys.length - i ∧ i ≤ ys.length ∧ ∃ w' S n, B X.K c w' σ z1 ∧ w1.Le w' ∧ w'.H = H' ∧ Aside c w' D ∧ w'.H D = some (SetO X.w D S n) ∧ n = (usort ((fs.take i).filterMap _root_.id)).length ∧ ∀ k, S k = true ↔ k ∈ (fs.take i).filterMap _root_.id,
    ⟨ys.length, by simp, Nat.zero_le _, ⟨w1.rho, w1.S, upd w1.H D (SetO X.w D (fun _ => false) 0)⟩, fun _ => false, 0, b1.aside as1, le_aside, rfl, ⟨as1.nr, as1.nS, as1.nc⟩, upd_same, rfl, fun k => by simp⟩, ?_⟩
  rintro i m H2 ⟨rfl, hi, w2, S, n, b2, l2, rfl, as2, hD2, hn, hS⟩
  have bw := b2.wipe (own.map (·.2))
  have hni : n ≤ i := by
    have q1 := usort_len ((fs.take i).filterMap _root_.id)
    have q2 := List.length_filterMap_le _root_.id (fs.take i)
    have q3 := List.length_take_le i fs
    omega
  by_cases hlt : i < ys.length
  · refine .inr ⟨dw.goes i c w2 _ _ hlt bw l2 hG, fun H' => ∃ w' S n, B X.K c w' σ z1 ∧ w1.Le w' ∧ w'.H = H' ∧ Aside c w' D ∧ w'.H D = some (SetO X.w D S n) ∧ n = (usort ((fs.take (i + 1)).filterMap _root_.id)).length ∧ ∀ k, S k = true ↔ k ∈ (fs.take (i + 1)).filterMap _root_.id,
      fun H' q => ⟨ys.length - (i + 1), by omega, rfl, hlt, q⟩, fun x H' y => ?_⟩
    have hy : ys[i]? = some ys[i] := List.getElem?_eq_getElem hlt
    have hif : i < fs.length := by omega
    have hf : fs[i]? = some fs[i] := List.getElem?_eq_getElem hif
    have bs := bw.self
    obtain ⟨w3, rfl, b3, l3, r3⟩ := dw.yields i w2.ct w2 _ _ x H' ys[i] hy bs l2 hG y
    refine hs i ys[i] fs[i] hy hf w2.ct w3 _ x _ b3 r3 fun w4 σ4 z4 b4 l4 hwp hw => ⟨hwp.trans (wipe_wipe σ _), fun s0 H0 C cl fp => ?_⟩
    refine hw s0 H0 C cl fp w2.ct w4 σ4 _ b4 fun d w5 z5 b5 l5 ⟨hb, e5, he⟩ => ?_
    have l25 : w2.Le w5 := (l3.trans l4).trans l5
    have back : ∀ {w6 : Wd} {σ6 : St} {z6 : Z}, B X.K w2.ct w6 σ6 z6 → w2.Le w6 → z6.ob = z1.ob → B X.K c w6 σ z1 := fun {w6 σ6 z6} b6 l6 e6 => by
      have := b2.slots (b2.comp b6) l6
      rw [e6] at this
      exact this
    cases d with
    | true =>
      show ∀ s H0 C cl fp, tE (Blk X scope s H0 C cl fp) elt σ4 w5.H _
      intro s1 H1 C1 cl1 fp1
      obtain ⟨v, hv⟩ := Option.isSome_iff_exists.mp hb.symm
      refine he v hv s1 H1 C1 cl1 fp1 w2.ct w5 σ4 _ b5 fun u x6 w6 z6 b6 l6 r6 ⟨e6, e7⟩ => ?_
      subst e6
      have l26 := l25.trans l6
      obtain ⟨as6, hD6⟩ := as2.on b2 hD2 b6
      refine ⟨v, S, n, Dp_int r6, hD6, by show n + 1 < 4096; omega, ⟨w6.rho, w6.S, upd w6.H D (SetO X.w D (fun j => S j || decide (j = v)) (if S v = true then n else n + 1))⟩, _, _, (back b6 l26 e7).aside as6, (l2.trans l26).trans le_aside, rfl, ⟨as6.nr, as6.nS, as6.nc⟩, upd_same, ?_, fun k => ?_⟩
      · have ef : (fs.take (i + 1)).filterMap _root_.id = (fs.take i).filterMap _root_.id ++ [v] := by
          rw [List.take_add_one, hf, hv, List.filterMap_append]
          rfl
        rw [ef]
        split
        · rename_i hSv
          rw [usort_old ((hS v).mp hSv)]
          exact hn
        · rename_i hSv
          rw [usort_more fun q => hSv ((hS v).mpr q), hn]
      · rw [List.take_add_one, hf, hv, List.filterMap_append, Bool.or_eq_true, hS k, decide_eq_true_eq, List.mem_append]
        simp
    | false =>
      show ∃ w' S n, _
      obtain ⟨as5, hD5⟩ := as2.on b2 hD2 b5
      have hn0 : fs[i] = none := by
        cases e : fs[i] with
        | none => rfl
        | some d =>
          rw [e] at hb
          cases hb
      have ef : (fs.take (i + 1)).filterMap _root_.id = (fs.take i).filterMap _root_.id := by
        rw [List.take_add_one, hf, hn0, List.filterMap_append]
        simp
      exact ⟨w5, S, n, back b5 l25 e5, l2.trans l25, rfl, as5, hD5, by rw [ef]; exact hn, fun k => by rw [ef]; exact hS k⟩
  · have e : i = ys.length := by omega
    subst e
    refine .inl ⟨dw.stops c w2 _ _ bw l2 hG, D, S, n, rfl, hD2, by
      rw [hn, hl, List.take_of_length_le (Nat.le_refl _)]
      exact h64, fun ms q h1 h2 _ hq => ?_⟩
    have e2 : ms = usort (fs.filterMap _root_.id) := usort_eq h1 fun k => by
      rw [h2 k, hS k, hl, List.take_of_length_le (Nat.le_refl _)]
    rw [e2]
    exact hk _ z1 w2 b2 (l1.trans l2) hP q hq
theorem newInts {K : PySem.W.Frag} {c : Ct} {w : Wd} {σ : St} {k : VK} {ms : List Int} (b : B K c w σ z) (hk : Cont K c w σ Q k) (h : Q (.sh (.list (ms.map .int))) z) : ∀ q, w.H q = none → k (.ref q) (upd w.H q (.lst (ms.map V.int))) := new_lstF b (DqAll_ints ms) hk h
theorem newIntsO {K : PySem.W.Frag} {c : Ct} {w : Wd} {σ : St} {k : VK} {ms : List Int} (b : B K c w σ z) (hk : Cont K c w σ Q k) (h : Q (.ob z.ob.length) ⟨z.sl, z.ob ++ [.lst ((ms.map PyData.int).map .sh)]⟩) : ∀ q, w.H q = none → k (.ref q) (upd w.H q (.lst (ms.map V.int))) := new_lst b (dp_allSh (DqAll_ints ms)) hk h
theorem we_sortSc {P : List Int → Z → Prop} (hb : Bi X "sorted" "sorted") (hN : X.N.Nodup) (ok : BlkOk X.N X.env.scope scope own) (hg : ∀ s H C cl fp, PG (Blk X scope s H C cl fp) tg g) (hc : X.calm = true)
    (hP : ∀ ms z1, P ms z1 → Q (.sh (.list (ms.map .int))) z1 ∨ Q (.ob z1.ob.length) ⟨z1.sl, z1.ob ++ [.lst ((ms.map PyData.int).map .sh)]⟩)
    (h : WI X tg iter z (ScD X elt t scope (own.map (·.2)) g P)) (hs : ∀ x, foldedSetIterable iter X.env x = pure x := by intro _; rfl)
    (he : starEach [.SetComp elt [⟨tg, iter, [t], 0⟩] scope pos'] X.env = (false, eval (.SetComp elt [⟨tg, iter, [t], 0⟩] scope pos') X.env) :: starEach [] X.env := by rfl) (hpl : (backTo pos (starEach [] X.env)).any (·.1) = false := by rfl) :
    WE X (.Call (.Name "sorted" p) [.SetComp elt [⟨tg, iter, [t], 0⟩] scope pos'] [] pos) z Q := by
  intro c w σ k bb hk
  have pt : ∀ s H C cl fp, PTs (Blk X scope s H C cl fp) [t] (fun σ H Q => ∀ s H0 C cl fp, tTs (Blk X scope s H0 C cl fp) [t] σ H Q) := fun s H C cl fp => ⟨fun pins s1 σ H1 Q I h => ptsB.run pins s1 σ H1 Q I (h s H C cl fp)⟩
  have pe : ∀ s H C cl fp, PE (Blk X scope s H C cl fp) elt (fun σ H Q => ∀ s H0 C cl fp, tE (Blk X scope s H0 C cl fp) elt σ H Q) := fun s H C cl fp => ⟨fun pins s1 σ H1 Q I h => h s H C cl fp pins s1 I⟩
  refine tE_of (pe_callB (cr_sortedSet hc) hb.g.g hb.m hb.v (pa_cons (pe_scI hc hN piB ok hg pt pe hs) pa_nil he) hb.g.n hb.g.d he hpl) ?_
  exact sc_ok hc bb h fun ms z1 w1 b1 l1 hp => by
    rcases hP ms z1 hp with q | q
    · exact newInts b1 (hk.le l1) q
    · exact newIntsO b1 (hk.le l1) q
/-- set(xs), xs a list of ints -/
theorem cr_setL (hc : X.calm = true) : CallR X (.type "set") (fun xs H Q => ∃ (a : Addr) (ns : List Int), xs = [.ref a] ∧ SqL X.K H a (ns.map V.int) ∧ ns.length < 4000 ∧ ∀ p n, H p = none → n ≤ ns.length → Q (.ref p) (upd H p (SetO X.w p (fun j => decide (j ∈ ns)) n))) := by
  intro pins s σ H xs us Q I r h
  obtain ⟨a, ns, rfl, hs, hl, q⟩ := h
  obtain ⟨u, rfl, ru⟩ := vals1 r
  cases ru
  obtain ⟨its, rv, hp, _⟩ := I.list hs
  have hi : IntsAre its.toArray.toList ns := intsAre_of rv
  refine call_set_listI ns (I.ok.hd hc) hp.isList hi (by show ns.length + 1 < 4096; omega) fun h' tk c R hc' keep => ?_
  refine ⟨.ref _, upd H s.heap.objs.size (SetO X.w s.heap.objs.size (fun j => decide (j ∈ ns)) c), I.laid (t' := tk) (fun b u e => keep b u e) (Nat.le_refl _) (setO_new R), rfl, q _ _ (I.hok.fresh (Nat.le_refl _)) hc'⟩
theorem we_sortSet {e : Expr} {p2 pos2 : Pos} (hb : Bi X "sorted" "sorted") (ht : Bt X "set" "set") (hc : X.calm = true) (h : WE X e z fun x z1 => ∃ ns : List Int, x = .sh (.list (ns.map .int)) ∧ ns.length < 64 ∧ Q (.sh (.list ((usort ns).map .int))) z1)
    (he : starEach [.Call (.Name "set" p2) [e] [] pos2] X.env = (false, eval (.Call (.Name "set" p2) [e] [] pos2) X.env) :: starEach [] X.env := by rfl) (he2 : starEach [e] X.env = (false, eval e X.env) :: starEach [] X.env := by rfl) (hpl : (backTo pos (starEach [] X.env)).any (·.1) = false := by rfl) (hpl2 : (backTo pos2 (starEach [] X.env)).any (·.1) = false := by rfl) :
    WE X (.Call (.Name "sorted" p) [.Call (.Name "set" p2) [e] [] pos2] [] pos) z Q := fun c w σ k bb hk =>
  tE_of (pe_callB (cr_sortedSet hc) hb.g.g hb.m hb.v (pa_cons (pe_callTy (cr_setL hc) ht.g.g ht.m ht.v (pa_cons peB pa_nil he2) ht.g.n ht.g.d he2 hpl2) pa_nil he) hb.g.n hb.g.d he hpl)
    (h c w σ _ bb fun v x w1 z1 b1 l1 r1 ⟨ns, e1, hl, hq⟩ => by
      subst e1
      obtain ⟨a, xs, rfl, hr, s1⟩ := Dp_lstI r1
      have ex := ints_v s1
      subst ex
      refine ⟨a, ns, rfl, .inl (Same.rd b1.same hr), by omega, fun D n hD hn => ?_⟩
      have as := b1.asideNew hD
      have b2 := b1.aside (o := SetO X.w D (fun j => decide (j ∈ ns)) n) as
      refine ⟨D, _, n, rfl, upd_same, by omega, fun ms q h1 h2 _ hq2 => ?_⟩
      have e2 : ms = usort ns := usort_eq h1 fun k => by rw [h2 k, decide_eq_true_eq]
      rw [e2]
      exact newInts b2 (hk.le (l1.trans le_aside)) hq q hq2)
end
end Dl

namespace Dl
open PySem PySem.Spec L2
open PyProof.Rows hiding St

/-! ### sorted({..}): a list that stays, a list of the store -/
def SortF (Q : Sl → Z → Prop) : List Int → Z → Prop := fun ms z1 => Q (.sh (.list (ms.map .int))) z1
def SortO (Q : Sl → Z → Prop) : List Int → Z → Prop := fun ms z1 => Q (.ob z1.ob.length) ⟨z1.sl, z1.ob ++ [.lst ((ms.map PyData.int).map .sh)]⟩
section
variable {X : Cx} {tg iter elt t : Expr} {scope : Scope} {z : Z} {pos pos' p : Pos} {own : List (Str × Nat)} {g : TG} {Q : Sl → Z → Prop}
theorem we_sortScO (hb : Bi X "sorted" "sorted") (hN : X.N.Nodup) (ok : BlkOk X.N X.env.scope scope own) (hg : ∀ s H C cl fp, PG (Blk X scope s H C cl fp) tg g) (hc : X.calm = true) (h : WI X tg iter z (ScD X elt t scope (own.map (·.2)) g (SortO Q))) (hs : ∀ x, foldedSetIterable iter X.env x = pure x := by intro _; rfl)
    (he : starEach [.SetComp elt [⟨tg, iter, [t], 0⟩] scope pos'] X.env = (false, eval (.SetComp elt [⟨tg, iter, [t], 0⟩] scope pos') X.env) :: starEach [] X.env := by rfl) (hpl : (backTo pos (starEach [] X.env)).any (·.1) = false := by rfl) :
    WE X (.Call (.Name "sorted" p) [.SetComp elt [⟨tg, iter, [t], 0⟩] scope pos'] [] pos) z Q := we_sortSc hb hN ok hg hc (fun _ _ h => .inr h) h hs he hpl
theorem we_sortScF (hb : Bi X "sorted" "sorted") (hN : X.N.Nodup) (ok : BlkOk X.N X.env.scope scope own) (hg : ∀ s H C cl fp, PG (Blk X scope s H C cl fp) tg g) (hc : X.calm = true) (h : WI X tg iter z (ScD X elt t scope (own.map (·.2)) g (SortF Q))) (hs : ∀ x, foldedSetIterable iter X.env x = pure x := by intro _; rfl)
    (he : starEach [.SetComp elt [⟨tg, iter, [t], 0⟩] scope pos'] X.env = (false, eval (.SetComp elt [⟨tg, iter, [t], 0⟩] scope pos') X.env) :: starEach [] X.env := by rfl) (hpl : (backTo pos (starEach [] X.env)).any (·.1) = false := by rfl) :
    WE X (.Call (.Name "sorted" p) [.SetComp elt [⟨tg, iter, [t], 0⟩] scope pos'] [] pos) z Q := we_sortSc hb hN ok hg hc (fun _ _ h => .inl h) h hs he hpl
end
/-! ### what is only looked at: the store's lists lent as data -/
def viewSl (om : List OO) : Sl → Sl
  | .sh d => .sh d
  | .no => .no
  | .tp ds => .tp ds
  | .ob i => match om[i]? with
    | some (.lst xs) => (match allSh xs with
      | some ds => .sh (.list ds)
      | none => .no)
    | some (.dk ks xs) => (match allSh xs with
      | some ds => .sh (.dict ((ks.zip ds).map fun q => (kD q.1, q.2)))
      | none => .no)
    | _ => .no
theorem zip_fst {α β γ : Type} : ∀ (ks : List α) {vs : List β} {ds : List γ}, vs.length = ds.length → (ks.zip vs).map (·.1) = (ks.zip ds).map (·.1)
  | [], _, _, _ => by simp
  | k :: ks, [], [], _ => rfl
  | k :: ks, v :: vs, d :: ds, h => by
    simp only [List.zip_cons_cons, List.map_cons]
    rw [zip_fst ks (by simpa using h)]
theorem zip_dq {K : PySem.W.Frag} {H : Hp} {α : Type} : ∀ (ks : List α) {vs : List V} {ds : List PyData}, DqAll K H vs ds → DqAll K H ((ks.zip vs).map (·.2)) ((ks.zip ds).map (·.2))
  | [], _, _, _ => by simpa using DqAll.nil
  | k :: ks, _, _, .nil => .nil
  | k :: ks, _, _, .cons h t => by
    simp only [List.zip_cons_cons, List.map_cons]
    exact .cons h (zip_dq ks t)
section
variable {K : PySem.W.Frag} {c : Ct} {w w' : Wd} {σ : St} {z z' : Z}
theorem Sv.view (b : B K c w σ z) {o : Option V} : ∀ {x : Sl}, Sv K w o x → Sv K ⟨[], w.H, w.H⟩ o (viewSl z.ob x)
  | .no, _ => .inl rfl
  | .sh d, h => by
    rcases h with h | ⟨v, e, h⟩
    · exact .inl h
    · exact .inr ⟨v, e, Dp_mono b.same h⟩
  | .tp d, h => by
    rcases h with h | ⟨v, e, a, xs, h1, h2, h3⟩
    · cases h
    · exact .inr ⟨v, e, a, xs, h1, Same.tup b.same h2, DpAll_mono b.same h3⟩
  | .ob i, h => by
    rcases h with h | ⟨v, e, p, hp, rfl⟩
    · cases h
    · show Sv K ⟨[], w.H, w.H⟩ o (match z.ob[i]? with | some (.lst xs) => (match allSh xs with | some ds => .sh (.list ds) | none => .no) | some (.dk ks xs) => (match allSh xs with | some ds => .sh (.dict ((ks.zip ds).map fun q => (kD q.1, q.2))) | none => .no) | _ => .no)
      cases e1 : z.ob[i]? with
      | none => exact .inl rfl
      | some oo =>
        cases oo with
        | gone => exact .inl rfl
        | lst xs =>
          show Sv K ⟨[], w.H, w.H⟩ o (match allSh xs with | some ds => .sh (.list ds) | none => .no)
          cases e2 : allSh xs with
          | none => exact .inl rfl
          | some ds =>
            obtain ⟨_, vs, hH, hv⟩ := b.ob i _ p e1 hp
            exact .inr ⟨.ref p, e, Dq.lst (.inl hH) (DpAll_mono b.same (allSh_dp e2 hv))⟩
        | dk ks xs =>
          show Sv K ⟨[], w.H, w.H⟩ o (match allSh xs with | some ds => .sh (.dict ((ks.zip ds).map fun q => (kD q.1, q.2))) | none => .no)
          cases e2 : allSh xs with
          | none => exact .inl rfl
          | some ds =>
            obtain ⟨_, vs, hH, hv⟩ := b.ob i _ p e1 hp
            have hd := DpAll_mono b.same (allSh_dp e2 hv)
            exact .inr ⟨.ref p, e, Dq.dic hH (zip_fst ks (DpAll_len hd)) (zip_dq ks hd)⟩
        | dt ks xs => exact .inl rfl
theorem paired_map {α β γ : Type} {F : α → β → Prop} {G : α → γ → Prop} {f : β → γ} (h : ∀ a b, F a b → G a (f b)) : ∀ {l₁ : List α} {l₂ : List β}, Paired F l₁ l₂ → Paired G l₁ (l₂.map f)
  | _, _, .nil => .nil
  | _, _, .cons q t => .cons (h _ _ q) (paired_map h t)
theorem B.lend (b : B K c w σ z) : B K ⟨w.H, w.H, []⟩ ⟨[], w.H, w.H⟩ σ ⟨z.sl.map (viewSl z.ob), []⟩ := ⟨Same.refl _, rfl, by simp, by simp, paired_map (fun _ _ q => q.view b) b.sl, fun i o p h => by simp at h, fun i p h => by simp at h, fun _ _ h _ => h, fun a o h => .inl (by
  show w.H a ≠ none
  have h : w.H a = some o := h
  rw [h]
  simp), Same.refl _, fun i p _ h => by simp at h⟩
theorem B.unlend (b : B K c w σ z) (b' : B K ⟨w.H, w.H, []⟩ w' σ z') : B K c ⟨w.rho, w.S, w'.H⟩ σ z ∧ w.Le ⟨w.rho, w.S, w'.H⟩ := by
  have l : w.Le ⟨w.rho, w.S, w'.H⟩ := ⟨Same.refl _, fun _ _ h => h⟩
  have hfr : ∀ a o, w.H a = some o → w'.H a = some o := fun a o h => b'.fr a o h (by simp)
  have keep : ∀ p ∈ w.rho, w'.H p = w.H p := fun p hp => by
    cases e : w.H p with
    | none => exact absurd e (b.tr p hp)
    | some o => exact hfr p o e
  refine ⟨⟨fun a o h => hfr a o (b.same a o h), b.len, b.nd, fun p hp => ?_, b.sl.mono fun _ _ q => q.mono l, fun i o p h1 h2 => (b.ob i o p h1 h2).mono l (fun e => e) (keep p (List.mem_of_getElem? h2)), b.pre, fun a o h hn => hfr a o (b.fr a o h hn), b.nw, b.st, b.nr⟩, l⟩
  show w'.H p ≠ none
  rw [keep p hp]
  exact b.tr p hp
end
theorem wt_lend {X : Cx} {e : Expr} {z : Z} {P : Bool → Z → Prop} (h : WT X e ⟨z.sl.map (viewSl z.ob), []⟩ fun b _ => P b z) : WT X e z P := fun c w σ k b hk =>
  h ⟨w.H, w.H, []⟩ ⟨[], w.H, w.H⟩ σ k b.lend fun d w' z' b' _ q => by
    obtain ⟨b2, l2⟩ := b.unlend b'
    exact hk d ⟨w.rho, w.S, w'.H⟩ z b2 l2 q
def flatD : PyData → Bool
  | .list _ => false
  | .tuple _ => false
  | .dict _ => false
  | _ => true
theorem flat_dq {K : PySem.W.Frag} {H H' : Hp} {v : V} {d : PyData} (f : flatD d = true) (h : Dq K H v d) : Dq K H' v d := by
  cases h with
  | non => exact .non
  | bl b => exact .bl b
  | int i => exact .int i
  | str x => exact .str x
  | lst _ _ => cases f
  | tup _ _ => cases f
  | dic _ _ _ => cases f
theorem we_lend {X : Cx} {e : Expr} {z : Z} {Q : Sl → Z → Prop} (h : WE X e ⟨z.sl.map (viewSl z.ob), []⟩ fun x _ => ∃ d, x = .sh d ∧ flatD d = true ∧ Q (.sh d) z) : WE X e z Q := fun c w σ k b hk =>
  h ⟨w.H, w.H, []⟩ ⟨[], w.H, w.H⟩ σ k b.lend fun v x w' z' b' _ r ⟨d, e1, hf, q⟩ => by
    subst e1
    obtain ⟨b2, l2⟩ := b.unlend b'
    exact hk v (.sh d) ⟨w.rho, w.S, w'.H⟩ z b2 l2 (vsh (flat_dq hf r)) q
end Dl

namespace Dl
open PySem PySem.Spec L2
open PyProof.Rows hiding St

/-! ### any def that is handed data alone -/
section
variable {X : Cx} {z : Z} {Q : Sl → Z → Prop}
theorem call_gen {R : Rl} {c : Ct} {w : Wd} {σ : St} {kk : VK} {vs : List V} {xs : List Sl} {ds : List PyData} {Q' : Sl → List OO → Prop} {E : XK} (n : Nat) (b : B X.K c w σ z) (hv : Paired (Vl X.K w) vs xs) (hn : xs.length = n) (hx : allSh xs = some ds) (hR : R xs [] Q')
    (hQ : ∀ y om, Q' y om → Q (mpS z.ob.length y) ⟨z.sl, z.ob ++ om.map (mpO z.ob.length)⟩) (hk : Cont X.K c w σ Q kk) : spD X.K n R (vs ++ []) w.H kk E := by
  rw [List.append_nil]
  refine ⟨by rw [hv.length]; exact hn, ⟨[], w.S, w.H⟩, xs, [], Q', rfl, b.ent0, ?_, hR, fun y om' v w' hq b' rv => ?_⟩
  · rw [allSh_eq hx]
    exact dp_allSh (w := ⟨[], w.S, w.H⟩) (allSh_dp (w := w) hx hv)
  · obtain ⟨b2, l⟩ := b.back0 b'
    exact hk v (mpS z.ob.length y) ⟨w.rho ++ w'.rho, w'.S, w'.H⟩ _ b2 l (Vl.mp (z := z) b.len rv rfl) (hQ y om' hq)
end
section
variable {X : Cx} {x : Str} {p pos : Pos} {e : Expr} {es : List Expr} {z : Z} {Q : Sl → Z → Prop} {k kk : Nat} {ps : List Str} {R : Rl}
theorem we_cG (c : Cf X x k ps R) (hr : RoomG kk X.A) (hle : k ≤ kk) (h : WA X (e :: es) z fun xs z1 => ∃ ds Q', allSh xs = some ds ∧ R xs [] Q' ∧ xs.length = ps.length ∧ ∀ y om, Q' y om → Q (mpS z1.ob.length y) ⟨z1.sl, z1.ob ++ om.map (mpO z1.ob.length)⟩)
    (he : starEach (e :: es) X.env = (false, eval e X.env) :: starEach es X.env) (hpl : (backTo pos (starEach es X.env)).any (·.1) = false) : WE X (.Call (.Name x p) (e :: es) [] pos) z Q := by
  obtain ⟨f, fd, G, hm, hk, hb⟩ := c.d.ex
  exact fun ct w σ kk bb hkk => tE_of (pe_callG G (hr.mono hle) c.g.g hm hk hb pass0x paB c.g.d he hpl) (h ct w σ _ bb fun vs xs w1 z1 b1 l1 hv ⟨ds, Q', hx, hR, hn, hQ⟩ => call_gen ps.length b1 hv hn hx hR hQ (hkk.le l1))
end
theorem set_end {α : Type} (l : List α) (a b : α) : (l ++ [a]).set l.length b = l ++ [b] := by simp
theorem get_end {α : Type} (l : List α) (a : α) : (l ++ [a])[l.length]? = some a := by simp
end Dl

namespace Dl
open PySem PySem.Spec L2
open PyProof.Rows hiding St

/-! ### what is written of the heap, without its lists -/
def seqL : Obj → Bool
  | ⟨.type c, _, .seq _ _, _⟩ => decide (c = "list")
  | _ => false
def thinB (K : PySem.W.Frag) (a : Addr) : Bool := match K.lookup a with
  | some o => !seqL o
  | none => true
def thin (K : PySem.W.Frag) : PySem.W.Frag := K.filter fun p => thinB K p.1
theorem lookup_filter {β : Type} (g : Addr → Bool) (a : Addr) : ∀ l : List (Addr × β), (l.filter fun p => g p.1).lookup a = if g a then l.lookup a else none
  | [] => by simp
  | (b, o) :: l => by
    rw [List.filter_cons, List.lookup_cons]
    by_cases e : (a == b) = true
    · have e' : a = b := by simpa using e
      subst e'
      by_cases hg : g a = true
      · simp [hg]
      · simp only [hg]
        rw [if_neg (by simp), lookup_filter g a l, if_neg hg]
        simp
    · by_cases hg : g b = true
      · simp only [hg, if_true]
        rw [List.lookup_cons]
        simp only [e]
        exact lookup_filter g a l
      · simp only [hg, e]
        exact lookup_filter g a l
section
variable {K : PySem.W.Frag} {a : Addr} {o : Obj}
theorem thin_lookup (h : K.lookup a = some o) (hs : seqL o = false) : (thin K).lookup a = some o := by
  unfold thin
  rw [lookup_filter (thinB K) a K, h, if_pos]
  unfold thinB
  rw [h]
  simp [hs]
theorem thin_sub (h : (thin K).lookup a = some o) : K.lookup a = some o ∧ seqL o = false := by
  unfold thin at h
  rw [lookup_filter (thinB K) a K] at h
  split at h
  · rename_i hg
    refine ⟨h, ?_⟩
    unfold thinB at hg
    rw [h] at hg
    simpa using hg
  · cases h
theorem thin_in {h : Heap} (X : K.In h) : (thin K).In h := fun a o e => X a o (thin_sub e).1
theorem thin_code {cd : Value} {q : Str} (h : PySem.W.codeIn K cd q = true) : PySem.W.codeIn (thin K) cd q = true := by
  unfold PySem.W.codeIn at h ⊢
  cases cd with
  | ref c =>
    cases e : K.lookup c with
    | none =>
      simp only [e] at h
      cases h
    | some o =>
      obtain ⟨oc, od, dt, os⟩ := o
      cases dt with
      | fields vs =>
        have e2 := thin_lookup e (by cases oc <;> rfl)
        simp only [e] at h
        simp only [e2]
        exact h
      | _ =>
        simp only [e] at h
        cases h
  | _ => cases h
theorem thin_fun {x qual : Str} {st : Stmt} {kws : List (Str × V)} {f : Addr} {fd : FuncData} (F : FunD K x qual (defArgs st) (defBody st) (defScope st) [] kws f fd) : Fun (thin K) x qual st f fd := by
  obtain ⟨oc, od, dV, kV, doc, pm, an, cdv, ct, osl, rfl, lk, hcd, hD, hK⟩ := F.ex
  have lk2 := thin_lookup lk (by cases oc <;> rfl)
  refine ⟨⟨oc, od, kV, doc, pm, an, cdv, ct, osl, ?_, lk2, thin_code hcd⟩, ?_⟩
  · rcases hD with ⟨_, rfl⟩ | ⟨e, _⟩
    · rfl
    · exact absurd rfl e
  · unfold PySem.W.keepIn
    simp only [lk2]
theorem thin_sq {H : Hp} {xs : List V} (h : SqL (thin K) H a xs) : Rd H a (.lst xs) := by
  rcases h with h | ⟨o, its, n, hk, hc, hd, hs, _⟩
  · exact h
  · have h2 := (thin_sub hk).2
    obtain ⟨oc, od, dt, os⟩ := o
    cases hc
    cases hs
    exact absurd h2 (by simp [seqL])
theorem only_thin {H : Hp} {xs : List V} (h : SqL K H a xs) (hn : thinB K a = true) : Rd H a (.lst xs) := by
  rcases h with h | ⟨o, its, n, hk, hc, hd, hs, _⟩
  · exact h
  · unfold thinB at hn
    rw [hk] at hn
    obtain ⟨oc, od, dt, os⟩ := o
    cases hc
    cases hs
    exact absurd hn (by simp [seqL])
end
theorem dqAll_ints {K : PySem.W.Frag} {H : Hp} : ∀ ns : List Int, DqAll K H (ns.map V.int) (ns.map PyData.int)
  | [] => .nil
  | n :: ns => .cons (.int n) (dqAll_ints ns)
/-- a law's promise at the script -/
theorem sp_script {K : PySem.W.Frag} {H : Hp} {a : Addr} {ns : List Int} {F : List PyData → PyData → Prop} (h : SqL (thin K) H a (ns.map V.int)) (hF : F [.list (ns.map .int)] (.bool true)) : spD (thin K) 1 (PureR F) [.ref a] H (fun v _ => v = .bl true) fun _ _ _ => False := by
  refine ⟨rfl, ⟨[], H, H⟩, [.sh (.list (ns.map .int))], [], fun y om => y = .sh (.bool true) ∧ om = [], rfl, ?_, .cons ?_ .nil, ⟨_, _, rfl, rfl, hF, rfl, rfl⟩, ?_⟩
  · exact ⟨Same.refl _, rfl, by simp, by simp, .nil, fun i o p h => by simp at h, fun i p h => h, fun _ _ h _ => h, fun a o h => .inl (by
      show H a ≠ none
      have h : H a = some o := h
      rw [h]
      simp), Same.refl _, fun i p _ h => by
      have h : ([] : List Addr)[i]? = some p := h
      simp at h⟩
  · exact Dq.lst (thin_sq h) (dqAll_ints ns)
  · rintro y om' v w' ⟨rfl, rfl⟩ _ r
    have r : Dq (thin K) w'.S v (.bool true) := r
    cases r
    rfl
/-- the law's def, called by the caller: the script is a list that stays -/
theorem law_goG {P : Program} {w : World} {K : PySem.W.Frag} {mg mb : Str → Option Value} {k : Nat} {fa a : Addr} {fd : FuncData} {x : Str} {sp : Sp} {s1 : Shared} {vs : List Value} {ns : List Int} (kin : (thin K).In s1.heap) (gns : s1.heap.Ns mainGlobals mg) (bns : s1.heap.Ns builtinsNs mb)
    (hbb : ∀ x : Str, x ≠ "__name__" → mb x = bootBuiltins x) (nolim : s1.heap.NoLimit) (gens : s1.gens = #[]) (hobj : s1.heap.get? a = some { cls := .type "list", data := .seq vs.toArray }) (hints : IntsAre vs ns) (small : ns.length ≤ sizeLine) (rm : RoomG k callerA)
    (F : ∀ base : Heap, (thin K).In base → base.Ns mainGlobals mg → FnG P w (thin K) mg base CX0 k fa fd [x] sp) (bnd : ∀ (s : Shared) (u : Value), BindsTo s fd ⟨[u], []⟩ [(x, u)])
    (hsp : ∀ H : Hp, SqL (thin K) H a (ns.map V.int) → sp [.ref a] H (fun v _ => v = .bl true) fun _ _ _ => False) :
    codeAny (model P w) callerA (.call (.ref fa) ⟨[.ref a], []⟩) (fun r s' => r = .ok (.ret (.bool true)) ∧ OldK s1.heap s'.heap ∧ s'.os = s1.os ∧ AllBare s'.gens) s1 := by
  have noK : (thin K).lookup a = none := by
    cases e : (thin K).lookup a with
    | none => rfl
    | some o =>
      have e1 := kin a o e
      rw [hobj] at e1
      cases e1
      exact absurd (thin_sub e).2 (by simp [seqL])
  generalize ho : ({ cls := .type "list", data := .seq vs.toArray } : Obj) = ob at hobj
  obtain ⟨H, eH⟩ : ∃ H : Hp, H = fun b => if b = a then some (.frz ob (.lst (ns.map V.int))) else none := ⟨_, rfl⟩
  have hA : H a = some (.frz ob (.lst (ns.map V.int))) := by rw [eH]; exact if_pos rfl
  have hN : ∀ b, b ≠ a → H b = none := fun b hb => by rw [eH]; exact if_neg hb
  have hok : HOk P w H s1.heap := fun b u z => by
    by_cases hb : b = a
    · subst hb
      rw [hA] at z
      cases z
      exact ⟨hobj, by rw [List.length_map]; exact small, vs, _, vals_ints hints, hobj.trans (congrArg some ho.symm)⟩
    · rw [hN b hb] at z
      cases z
  have dictN : ∀ {b : Addr} {o : Obj} {es : Array DictEntry} {ep : Nat}, s1.heap.get? b = some o → o.data = .dict es ep → H b = none := fun {b o es ep} e d => by
    by_cases hb : b = a
    · subst hb
      rw [hobj] at e
      cases e
      rw [← ho] at d
      cases d
    · exact hN b hb
  have nsB : ∀ {b : Addr} {m : Str → Option Value}, s1.heap.Ns b m → (hidT s1.heap H).Ns b m := fun {b m} ⟨o, es, ep, e, d, r⟩ => ⟨o, es, ep, hidT_get e (dictN e d), d, r⟩
  have kinB : (thin K).In (hidT s1.heap H) := fun b o e => hidT_get (kin b o e) (by
    by_cases hb : b = a
    · subst hb
      rw [noK] at e
      cases e
    · exact hN b hb)
  have modB : Mod (thin K) mg (hidT s1.heap H) := ⟨kinB, nsB gns, ⟨mb, nsB bns, hbb⟩, nolim.elim fun mc h => ⟨mc, nsB h.1, h.2⟩⟩
  have env0 : Env0 P w (thin K) mg (hidT s1.heap H) callerA [] s1 H := ⟨rfl, modB, fun b o e => of_hidT e, Nat.le_of_eq (hidT_size _ _), trivial, fun b hb => absurd (show b ∈ ([] : List Addr) from hb) (by simp), hok, .of_eq gens⟩
  refine codeAny_mono ((F _ kinB (nsB gns)).go callerA [] s1 H ⟨[.ref a], []⟩ [.ref a] [.ref a] _ _ rm env0 (bnd s1 (.ref a)) (.cons rfl .nil) (hsp H (.inl (.inr ⟨ob, hA⟩)))) fun r s' h => ?_
  match r, h with
  | .error e, h => exact h.elim
  | .ok .next, h => exact h.elim
  | .ok .brk, h => exact h.elim
  | .ok .cont, h => exact h.elim
  | .ok (.ret u), ⟨v, H', os, bare, un, hok', rv, q⟩ =>
    have q : v = .bl true := q
    subst q
    have rv : u = Value.bool true := rv
    subst rv
    refine ⟨rfl, OldK.of_keep fun b o e => ?_, os, bare⟩
    by_cases hb : b = a
    · subst hb
      have h1 := (hok' b _ (un.frzs b ob _ hA)).1
      rw [hobj] at e
      rw [← e]
      exact h1
    · exact un.keep b o e (hN b hb) (fun z => absurd (show b ∈ ([] : List Addr) from z) (by simp)) (by simp)
theorem walk_ofG {l : PySem.W.OpenLaw} {n k : Nat} {q : Program} {loose : List Str} {XP : (Str → Option Value) → Heap → Prop} {YP : World → Heap → Prop} {d : DefRec} {x : Str} (hn : l.most = some n) (hn2 : n ≤ sizeLine) (hdf : d.params.defaults = []) (rm : RoomG k callerA)
    (F : ∀ (w : World) (mg : Str → Option Value) (fa : Addr) (h : Heap), YP w h → h.Ns mainGlobals mg → mg d.name = some (.ref fa) → ∃ (K : PySem.W.Frag) (fd : FuncData) (sp : Sp), K.In h ∧ (∀ (s : Shared) (u : Value), BindsTo s fd ⟨[u], []⟩ [(x, u)]) ∧
      (∀ (H : Hp) (a : Addr) (ns : List Int), ns.length ≤ n → SqL (thin K) H a (ns.map V.int) → sp [.ref a] H (fun v _ => v = .bl true) fun _ _ _ => False) ∧ ∀ base : Heap, (thin K).In base → base.Ns mainGlobals mg → FnG l.prog w (thin K) mg base CX0 k fa fd [x] sp) :
    PySem.W.WalkO q loose XP YP l.row.toRowW d [] (fun f vs => PySem.call f vs) := by
  refine Att.attach_call hn hdf fun w _ s1 mg mb fa _ _ _ _ a vs ns G Y _ _ _ hmg hobj hints hlen hg => ?_
  obtain ⟨K, fd, sp, KX, bnd, hsp, hF⟩ := F w mg fa _ Y G.T.g hmg
  exact law_goG (thin_in KX) G.T.g G.T.b G.T.builtins G.T.nolimit hg hobj hints (Nat.le_trans hlen hn2) rm hF bnd fun H hS => hsp H a ns hlen hS
end Dl

namespace Dl
open PySem PySem.Spec L2
open PyProof.Rows hiding St

/-! ### repr of data -/
section
variable {X : Cx} {pins : List (Addr × Obj)} {σ : St} {H : Hp} {s : Shared}
mutual
theorem Dq.reads (I : Inv X pins σ H s) : ∀ {v : V} {d : PyData} {u : Value}, Dq X.K H v d → d.hasDict = false → RelV v u → ∃ as, Reads s.heap u d as
  | _, _, u, .non, _, r => by
    have e : u = .none := r
    subst e
    exact ⟨_, .none⟩
  | _, _, u, .bl b, _, r => by
    have e : u = .bool b := r
    subst e
    exact ⟨_, .bool b⟩
  | _, _, u, .int i, _, r => by
    obtain ⟨t, e⟩ : ∃ t, u = .int i t := r
    subst e
    exact ⟨_, .int i t⟩
  | _, _, u, .str x, _, r => by
    obtain ⟨t, e⟩ : ∃ t, u = .str x t := r
    subst e
    exact ⟨_, .str x t⟩
  | _, _, u, .lst (a := a) h hs, hn, r => by
    have e : u = .ref a := r
    subst e
    obtain ⟨its, rv, ⟨o, n, e, hc, _, hd⟩, _⟩ := I.list (.inl h)
    obtain ⟨as, h4⟩ := DqAll.reads I hs (by simpa only [PyData.hasDict] using hn) rv
    exact ⟨_, .list e hc hd h4⟩
  | _, _, u, .tup (a := a) h hs, hn, r => by
    have e : u = .ref a := r
    subst e
    obtain ⟨its, rv, ⟨o, e, hc, n, hd⟩, _⟩ := I.tuple h.sq
    obtain ⟨as, h4⟩ := DqAll.reads I hs (by simpa only [PyData.hasDict] using hn) rv
    exact ⟨_, .tuple e hc hd h4⟩
  | _, _, u, .dic _ _ _, n, _ => by simp only [PyData.hasDict] at n; cases n
theorem DqAll.reads (I : Inv X pins σ H s) : ∀ {vs : List V} {ds : List PyData} {us : List Value}, DqAll X.K H vs ds → PyData.hasDictAll ds = false → Vals vs us → ∃ as, ReadsAll s.heap us ds as
  | _, _, _, .nil, _, .nil => ⟨_, .nil⟩
  | _, _, _, .cons h hs, n, .cons r rs => by
    simp only [PyData.hasDictAll, Bool.or_eq_false_iff] at n
    obtain ⟨a1, h1⟩ := Dq.reads I h n.1 r
    obtain ⟨a2, h2⟩ := DqAll.reads I hs n.2 rs
    exact ⟨_, .cons h1 h2⟩
end
end
/-- what repr can show -/
structure Shw (d : PyData) : Prop where
  s : d.showable = true
  l : d.shown.length ≤ sizeLine
  n : d.hasDict = false
  d : d.depth ≤ 100
section
variable {X : Cx} {k : Nat}
theorem repr_go {A : Around} {prog : Program} {w : World} {E : Value → Shared → Prop} {s : Shared} {Q : Value → Shared → Prop} {u : Value} {d : PyData} {as : List Addr} (r : Reads s.heap u d as) (hs : Shw d) (nd : d.hasDict = false) (hg : A.guards = some []) (hu : A.units + 200 < cLine)
    (hQ : ∀ h' t tk, (∀ b o, s.heap.get? b = some o → h'.get? b = some o) → Q (.str d.shown t) { s with heap := h', toks := tk }) : wpAny (model prog w) A (call (.builtin "repr") [u]) Q E s := by
  have hdp := hs.d
  cases r with
  | none =>
    have e : (PyData.none).shown = "None" := by simp only [PyData.shown]
    rw [e] at hQ
    exact PySem.P.repr_of_none (hQ s.heap _ _ fun _ _ e => e)
  | bool b =>
    have e : (PyData.bool b).shown = (if b then Str.ofString "True" else Str.ofString "False") := by simp only [PyData.shown]
    rw [e] at hQ
    exact PySem.P.repr_of_bool (hQ s.heap _ _ fun _ _ e => e)
  | int i t =>
    have e : (PyData.int i).shown = toString i := by simp only [PyData.shown]
    rw [e] at hQ
    exact PySem.P.repr_of_int (by simpa [PyData.showable] using hs.s) (hQ s.heap _ _ fun _ _ e => e)
  | str x t =>
    have e : (PyData.str x).shown = reprText x := by simp only [PyData.shown]
    have hl := hs.l
    rw [e] at hQ hl
    exact PySem.P.repr_of_str (hQ s.heap _ _ fun _ _ e => e) hl
  | list h1 h2 h3 h4 =>
    rename_i a o vs n xs as'
    have e : (PyData.list xs).shown = listText (PyData.shownAll xs) := by simp only [PyData.shown]
    have hl := hs.l
    rw [e] at hQ hl
    simp only [PyData.depth] at hdp
    obtain ⟨bs, hb, hk⟩ := ReprAllK.of_readsAll (prog := prog) (w := w) h4 (by simpa [PyData.showable] using hs.s) (fun hx => by
      simp only [PyData.hasDict] at nd
      rw [nd] at hx
      cases hx) (fun t ht => Nat.le_trans (listText_mem_le ht) hl)
    have r : Reads s.heap (.ref a) (.list xs) _ := .list h1 h2 h3 h4
    have hna : a ∉ bs := not_mem_of_deeper r (by simp only [PyData.depth]; omega) hb
    obtain ⟨l⟩ := vs
    cases l with
    | nil =>
      have h4 : ReadsAll s.heap [] xs as' := h4
      cases h4
      simp only [PyData.shownAll, listText_nil] at hQ
      exact call_repr_slot (by omega) ⟨o, h1, h2⟩ F.slot_list_repr.toG (call_list_repr_empty ⟨o, h1, h2⟩ h1 h3 ⟨_, _, rfl, hQ s.heap _ _ fun _ _ e => e⟩)
    | cons x l =>
      exact call_repr_slot (by omega) ⟨o, h1, h2⟩ F.slot_list_repr.toG (call_list_reprK h1 h2 h3 hna (by simpa using hk.length_eq) (fun i y e => hk.item i y (by simpa using e)) (g := []) hg (fun b _ => Clear.nil b) (by show A.units + 1 + _ < cLine; omega) (fun _ _ e => e) (fun h' u tk hk' => ⟨_, _, rfl, hQ h' _ tk hk'⟩) hl)
  | tuple h1 h2 h3 h4 =>
    rename_i a o vs n xs
    have e : (PyData.tuple xs).shown = tupleText (PyData.shownAll xs) := by simp only [PyData.shown]
    have hl := hs.l
    rw [e] at hQ hl
    simp only [PyData.depth] at hdp
    obtain ⟨bs, hb, hk⟩ := ReprAllK.of_readsAll (prog := prog) (w := w) h4 (by simpa [PyData.showable] using hs.s) (fun hx => by
      simp only [PyData.hasDict] at nd
      rw [nd] at hx
      cases hx) (fun t ht => Nat.le_trans (tupleText_mem_le ht) hl)
    have r : Reads s.heap (.ref a) (.tuple xs) _ := .tuple h1 h2 h3 h4
    have hna : a ∉ bs := not_mem_of_deeper r (by simp only [PyData.depth]; omega) hb
    exact call_repr_slot (by omega) ⟨o, h1, h2⟩ F.slot_tuple_repr (call_tuple_reprK h1 h2 h3 hna hk (g := []) hg (fun b _ => Clear.nil b) (by show A.units + 1 + _ < cLine; omega) (fun _ _ e => e) (fun h' u tk hk' => ⟨_, _, rfl, hQ h' _ tk hk'⟩) hl)
  | dict _ _ _ _ _ =>
    simp only [PyData.hasDict] at nd
    cases nd
theorem cr_repr (rm : RoomG k X.A) : CallR X (.builtin "repr") (fun xs H Q => ∃ v d, xs = [v] ∧ Dq X.K H v d ∧ Shw d ∧ Q (.str d.shown) H) := by
  intro pins s σ H xs us Q I r h
  obtain ⟨v, d, rfl, hd, hs, q⟩ := h
  obtain ⟨u, rfl, ru⟩ := vals1 r
  obtain ⟨as, rd⟩ := Dq.reads I hd hs.n ru
  have hu := rm.r.un
  exact repr_go rd hs hs.n rm.g (by omega) fun h' t tk hk => ⟨.str d.shown, H, I.kept hk, ⟨t, rfl⟩, q⟩
end
section
variable {X : Cx} {z : Z} {Q : Sl → Z → Prop} {k : Nat}
theorem cd_repr {d : PyData} (rm : RoomG k X.A) (hs : Shw d) (h : Q (.sh (.str d.shown)) z) : CD X (.builtin "repr") [.sh d] z Q := fun c w σ vs kk b rr hk => by
  obtain ⟨v, rfl, r⟩ := p1 rr
  exact cB_of (cr_repr rm) ⟨v, d, rfl, Dp_mono b.same r, hs, hk _ _ w z b (.refl w) (vS _) h⟩
end
end Dl

namespace Dl
open PySem PySem.Spec L2
open PyProof.Rows hiding St

/-! ### a, *b = a tuple -/
theorem star_go {prog : Program} {w : World} {A : Around} {E : Value → Shared → Prop} {s : Shared} {l : Addr} {x : Value} {xs : List Value} {Q : List Value → Shared → Prop} (hl : IsTup s.heap l (x :: xs).toArray) (hh : A.handled = none) (hz : xs.length ≤ 16000)
    (h : ∀ (h2 : Heap) tk, (∀ b o, s.heap.get? b = some o → h2.get? b = some o) → Q [x, .ref h2.objs.size] { s with heap := h2.push { cls := .type "list", data := .seq xs.toArray }, toks := tk }) :
    wpAny (model prog w) A (unpackItems (.ref l) 2 (some 1)) Q E s := by
  have hsz : (x :: xs).toArray.size = xs.length + 1 := by simp
  have hlt : l < s.heap.objs.size := let ⟨o, ho, _⟩ := hl; Heap.lt_size ho
  have hne : l ≠ s.heap.objs.size := Nat.ne_of_lt hlt
  unfold unpackItems notIterableAtAll
  refine wpAny_bind (wpAny_bind (wpAny_specialOf hl.typeIs slot_tuple_iter.lookup (wpAny_pure ?_)))
  simp only [Bool.false_eq_true, if_false]
  refine wpAny_bind (wpAny_holding (iter_tuple hl ?_))
  refine wpAny_bind (wpAny_holding (draw_tuple hne 1 0 _ _ ⟨_, Heap.get?_push_size _ rfl, rfl, rfl⟩ (hl.push _) (by omega) fun h1 hit hs1 => ?_))
  have hl1 : IsTup h1 l (x :: xs).toArray := (hl.push _).extBut hs1.extBut hne
  have e1 : List.take 1 (List.drop 0 (x :: xs).toArray.toList) = [x] := by simp
  rw [e1]
  simp only [List.length_singleton, Nat.lt_irrefl, if_false]
  have hiL : s.heap.objs.size < h1.objs.size := let ⟨o, ho, _⟩ := hit; Heap.lt_size ho
  have hlL : l < h1.objs.size := let ⟨o, ho, _⟩ := hl1; Heap.lt_size ho
  refine wpAny_bind (wpAny_holding (PySem.W.kun_collect (s := { s with heap := h1 }) (T := "tuple_iterator") (.inr (.inr (.inr rfl))) (Walks.tuple (A := A.in1) hh s.heap.objs.size l hne (x :: xs).toArray) (fun _ _ st => st.1.typeIs) (k := 1) (by omega) ⟨hit, hl1⟩ hiL hlL (fun h2 tk hk => ?_) (by rw [sizeLine_eq]; omega)))
  have e2 : List.drop 1 (x :: xs).toArray.toList = xs := by simp
  rw [e2]
  simp only [Nat.add_one_sub_one, Nat.sub_self, Nat.not_lt_zero, if_false, Nat.sub_zero, List.take_length, List.drop_length, List.append_nil]
  exact wpAny_bind (wpAny_newList (wpAny_pure (h h2 tk fun b o e => hk b o (Nat.ne_of_lt (Heap.lt_size e)) (hs1.extBut b o (Nat.ne_of_lt (Heap.lt_size e)) (Heap.get?_push_of_some _ e)))) (by rw [sizeLine_eq]; omega))
def gStar (K : PySem.W.Frag) (t : TGs) : TG := fun v σ H Q => ∃ a x xs, v = .ref a ∧ SqT K H a (x :: xs) ∧ xs.length ≤ 16000 ∧ ∀ p, H p = none → t [x, .ref p] σ (upd H p (.lst xs)) Q
theorem pg_star {X : Cx} {e1 e2 : Expr} {p pos : Pos} {k : Nat} {t : TGs} (hc : X.calm = true) (h : PGs X [e1, e2] t) (hm : (assignEach [e1, .Starred e2 p] X.env).map (·.2) = (assignEach [e1, e2] X.env).map (·.2) := by rfl)
    (hn : (assignEach [e1, .Starred e2 p] X.env).length = 2 := by rfl) (hi : (assignEach [e1, .Starred e2 p] X.env).findIdx? (·.1) = some 1 := by rfl) : PG X (.Tuple [e1, .Starred e2 p] k pos) (gStar X.K t) := by
  refine ⟨fun pins s σ H v u Q I r hw => ?_⟩
  obtain ⟨a, x, xs, rfl, hq, hl, hw⟩ := hw
  cases r
  obtain ⟨its, rv, ht, hz⟩ := I.tuple hq
  cases rv with
  | cons rx rv =>
    rename_i y its
    rw [assign_Tuple]
    refine wpAny_bind (wpAny_standAt ?_)
    unfold unpack
    rw [hn, hi, hm]
    refine wpAny_bind (wpAny_holding (star_go ht (I.ok.hd hc) (by rw [← rv.length]; exact hl) fun h2 tk keep => ?_))
    have I1 : Inv X pins σ H { s with heap := h2, toks := tk } := I.kept keep
    have I2 := I1.lnew (t' := tk) rv (by rw [sizeLine_eq]; omega)
    exact h.run pins _ σ _ [x, .ref _] _ Q I2 (.cons rx (.cons rfl .nil)) (hw _ I1.fresh)
section
variable {K : PySem.W.Frag} {vs : List Nat} {i j : Nat} {y : Sl} {z : Z} {Q : Z → Prop} {d : PyData} {ds : List PyData}
theorem gd_starF (hy : y = .sh (.tuple (d :: ds))) (hi : i ∈ vs) (hj : j ∈ vs) (hl : ds.length ≤ 16000) (h : Q ⟨(z.sl.set i (.sh d)).set j (.sh (.list ds)), z.ob⟩) : GD K vs (gStar K (gNames [i, j])) y z Q := by
  subst hy
  intro c w σ v k bb r hk
  obtain ⟨a, xs, rfl, hq, hs⟩ := Dp_tupI r
  cases hs with
  | cons h1 hs =>
    rename_i x xs
    refine ⟨a, x, xs, rfl, Same.tup bb.same hq, by rw [DpAll_len hs]; exact hl, fun p hp => ?_⟩
    have l : w.Le ⟨w.rho, upd w.S p (.lst xs), upd w.H p (.lst xs)⟩ := le_new (bb.freshS hp)
    have b2 : B K c ⟨w.rho, upd w.S p (.lst xs), upd w.H p (.lst xs)⟩ σ z := bb.newS hp
    have hp2 : Dq K (upd w.S p (.lst xs)) (.ref p) (.list ds) := Dq.lst (.inl upd_same) (DpAll_mono l.st hs)
    exact gds_names (is := [i, j]) (ds := [d, .list ds]) (fun n hn => by
      simp only [List.mem_cons, List.not_mem_nil, or_false] at hn
      rcases hn with rfl | rfl
      · exact hi
      · exact hj) rfl h c ⟨w.rho, upd w.S p (.lst xs), upd w.H p (.lst xs)⟩ σ _ k b2 (.cons (Dp_mono l.st h1) (.cons hp2 .nil)) fun σ' z' b' e q => hk _ σ' z' b' l e q
end
end Dl

namespace Dl
open PySem PySem.Spec L2
open PyProof.Rows hiding St

/-! ### a < b < c; a text in some texts -/
section
variable {X : Cx} {a b e : Expr} {z : Z} {Q : Sl → Z → Prop} {pos : Pos}
theorem we_chain {op op' : CmpOp} (h : WE X a z fun x z1 => WE X b z1 fun y z2 => RD X (compareOp op) x y z2 fun t z3 => ∃ c, t = .sh (.bool c) ∧ (c = true → WE X e z3 fun u z4 => RD X (compareOp op') y u z4 Q) ∧ (c = false → Q (.sh (.bool false)) z3))
    (hm : lastMarks [op, op'] [b, e] = false := by with_unfolding_all rfl) : WE X (.Compare a [op, op'] [b, e] pos) z Q := fun c w σ k bb hk =>
  tE_of (pe_chain rB_op rB_op peB peB peB hm) (h c w σ _ bb fun v x w1 z1 b1 l1 r1 h1 => h1 c w1 σ _ b1 fun u y w2 z2 b2 l2 r2 h2 =>
    h2 c w2 σ v u _ b2 (r1.mono l2) r2 fun t s w3 z3 b3 l3 r3 ⟨d, e1, h4, h5⟩ => by
      subst e1
      have r3 : Dq X.K w3.S t (.bool d) := r3
      cases r3
      refine ⟨d, rfl, ?_⟩
      cases d with
      | true =>
        rw [if_pos rfl]
        exact h4 rfl c w3 σ _ b3 fun u2 y2 w4 z4 b4 l4 r4 h6 => h6 c w4 σ u u2 _ b4 (r2.mono (l3.trans l4)) r4 (hk.le (((l1.trans l2).trans l3).trans l4))
      | false =>
        rw [if_neg Bool.false_ne_true]
        exact hk _ _ w3 z3 b3 ((l1.trans l2).trans l3) (vB false) (h5 rfl))
theorem inV_strs (x : Str) : ∀ ys : List Str, inV (.str x) (ys.map V.str) = ys.contains x
  | [] => rfl
  | y :: ys => by
    show (eqV (.str y) (.str x) || inV (.str x) (ys.map V.str)) = _
    rw [inV_strs x ys, List.contains_cons]
    congr 1
    show (y == x) = (x == y)
    exact Bool.beq_comm
theorem flat_strs (ys : List Str) : (ys.map V.str).all flatV = true := by
  rw [List.all_eq_true]
  rintro v hv
  obtain ⟨n, _, rfl⟩ := List.mem_map.mp hv
  rfl
theorem strs_v {K : PySem.W.Frag} {H : Hp} : ∀ {vs : List V} {ys : List Str}, DqAll K H vs (ys.map .str) → vs = ys.map .str
  | [], [], _ => rfl
  | _, y :: ys, .cons h t => by
    cases h
    rw [strs_v t]
    rfl
theorem rd_notInS {x : Str} {ys : List Str} {ds : List PyData} (e : ds = ys.map .str) (h : Q (.sh (.bool (!ys.contains x))) z) : RD X (compareOp .NotIn) (.sh (.str x)) (.sh (.tuple ds)) z Q := fun c w σ v u kk b r1 r2 hk => by
  subst e
  cases Dp_str r1
  obtain ⟨p, xs, rfl, h3, s1⟩ := Dp_tupI r2
  have e := strs_v s1
  subst e
  refine rB_of op_notIn_seq ⟨p, _, rfl, .inr (Same.tup b.same h3), rfl, flat_strs ys, ?_⟩
  rw [if_pos rfl, inV_strs]
  exact hk _ _ w z b (.refl w) (vB _) h
end
end Dl

namespace Dl
open PySem PySem.Spec L2
open PyProof.Rows hiding St

/-! ### the module's table of ints by texts: T.get(k, d) -/
structure TabI (X : Cx) (x : Str) (f : Str → Option Int) : Prop where
  ex : ∃ (d : Addr) (es : Array DictEntry) (n : Nat), KDict X.K X.w d es n ∧ X.mg x = some (.ref d) ∧ ∀ k : Str, ∃ r : Option Value, PySem.W.nsIn X.K d k = some r ∧ ((r = none ∧ f k = none) ∨ ∃ i t, r = some (.int i t) ∧ f k = some i)
def tKGet (X : Cx) (d : Addr) (ty tx : TE) : TE := fun σ H Q => ty σ H fun y H2 => tx σ H2 fun z H3 => ∃ (k : Str) (j : Int) (r : Option Value), y = .str k ∧ z = .int j ∧ PySem.W.nsIn X.K d k = some r ∧ ((r = none ∧ Q (.int j) H3) ∨ ∃ i t, r = some (.int i t) ∧ Q (.int i) H3)
section
variable {X : Cx} {e f : Expr} {x : Str} {p apos cpos : Pos} {ty tx : TE} {z : Z} {Q : Sl → Z → Prop}
theorem pe_kget {d : Addr} {es : Array DictEntry} {n : Nat} (D : KDict X.K X.w d es n) (hg : Gl X x) (hm : X.mg x = some (.ref d)) (hdb : (x == ("__debug__" : Str)) = false) (he : PE X e ty) (hf : PE X f tx) (m : M2 X (.Name x p) "get" apos e f cpos) :
    PE X (.Call (.Attribute (.Name x p) "get" apos) [e, f] [] cpos) (tKGet X d ty tx) := by
  refine ⟨fun pins s σ H Q I h => wpAny_Call_method m.base m.few m.line PySem.F.plainAttrs_dict PySem.F.slot_dict_get PySem.F.type_dict_get (ld_glob I hg hm ?_ hdb)⟩
  refine ⟨kd_type D I, fun b q => ?_, ?_⟩
  · cases q
    exact ⟨_, I.kIn _ _ D.at_, rfl⟩
  rw [m.trees]
  refine Calls.callWith_builtin rfl (Calls.evalArgs_plain (Calls.spliced_cons (thn (he.run pins s σ H _ I h) fun iv s2 ⟨y, H2, I2, ry, q2⟩ => Calls.spliced_cons (thn (hf.run pins s2 σ H2 _ I2 q2) fun fv s3 ⟨u, H3, I3, ru, k, j, r, e1, e2, hr, q3⟩ => Calls.spliced_nil ?_))))
  subst e1 e2
  obtain ⟨t, rfl⟩ : ∃ t, iv = .str k t := ry
  obtain ⟨t2, rfl⟩ : ∃ t, fv = .int j t := ru
  refine call_meetsIn PySem.F.slot_dict_get (kd_type D I3) PySem.F.entry_dict_get (PySem.F.args_dict_get_3 _ _ _) (meets_dict_get_default (strKind X.prog X.w) d (PySem.strKind_is X.prog X.w k t) D.low _) ⟨_, PySem.W.mapOf_K (prog := X.prog) (w := X.w) I3.kIn D.at_ D.lit, ?_⟩
  show EP X pins σ Q ((findBy Value.isStrOf es k).getD (.int j t2)) _
  rw [PySem.W.find_K D.at_ hr]
  rcases q3 with ⟨rfl, q⟩ | ⟨i, t3, rfl, q⟩
  · exact ⟨.int j, H3, I3.tok _, ⟨t2, rfl⟩, q⟩
  · exact ⟨.int i, H3, I3.tok _, ⟨t3, rfl⟩, q⟩
theorem we_kget {g : Str → Option Int} (T : TabI X x g) (hg : Gn X x) (m : M2 X (.Name x p) "get" apos e f cpos) (h : WE X e z fun y z1 => WE X f z1 fun u z2 => ∃ (k : Str) (j : Int), y = .sh (.str k) ∧ u = .sh (.int j) ∧ Q (.sh (.int ((g k).getD j))) z2) :
    WE X (.Call (.Attribute (.Name x p) "get" apos) [e, f] [] cpos) z Q := fun c w σ kk bb hk => by
  obtain ⟨d, es, n, D, hm, ht⟩ := T.ex
  refine tE_of (pe_kget D hg.g hm hg.d peB peB m) (h c w σ _ bb fun v y w1 z1 b1 l1 r1 h1 => h1 c w1 σ _ b1 fun u y2 w2 z2 b2 l2 r2 ⟨k, j, e1, e2, hq⟩ => ?_)
  subst e1 e2
  cases Dp_str r1
  cases Dp_int r2
  obtain ⟨r, hr, q⟩ := ht k
  refine ⟨k, j, r, rfl, rfl, hr, ?_⟩
  rcases q with ⟨e3, e4⟩ | ⟨i, t, e3, e4⟩
  · refine .inl ⟨e3, ?_⟩
    rw [e4] at hq
    exact hk _ _ w2 z2 b2 (l1.trans l2) (vI j) hq
  · refine .inr ⟨i, t, e3, ?_⟩
    rw [e4] at hq
    exact hk _ _ w2 z2 b2 (l1.trans l2) (vI i) hq
end
end Dl

namespace Dl
open PySem PySem.Spec L2
open PyProof.Rows hiding St

/-! ### a display of a dict, looked up at once -/
section
variable {X : Cx} {e : Expr} {z : Z} {Q : Sl → Z → Prop} {pos pos2 : Pos} {k1 k2 k3 : Str} {v1 v2 v3 : Int}
theorem we_disp3 {a1 a2 a3 b1 b2 b3 : Pos} {c1 c2 c3 d1 d2 d3} (hu : X.A.units + 1 < cLine) (h : WE X e z fun y z1 => ∃ (k : Str) (v : Int), y = .sh (.str k) ∧ (mergeK [] [(.inr k1, .int v1), (.inr k2, .int v2), (.inr k3, .int v3)]).find? (fun kv => decide (kv.1 = (.inr k : Key))) = some (.inr k, .int v) ∧ Q (.sh (.int v)) z1) (hs : NoSl e) :
    WE X (.Subscript (.Dict [some (.Constant (.str k1) c1 a1), some (.Constant (.str k2) c2 a2), some (.Constant (.str k3) c3 a3)] [.Constant (.int v1) d1 b1, .Constant (.int v2) d2 b2, .Constant (.int v3) d3 b3] pos2) e pos) z Q := fun c w σ kk bb hk => by
  refine tE_of (pe_dget hu (pe_disp (pps_cons pe_str pe_int (pps_cons pe_str pe_int (pps_cons pe_str pe_int pps_nil))) rfl rfl (by simp) (by simp)) peB hs) (fun p hp => ?_)
  refine ⟨upd_same, [(.inr k1, .int v1), (.inr k2, .int v2), (.inr k3, .int v3)], rfl, by simp, ?_⟩
  have as := bb.asideNew hp
  have bA := bb.aside (o := .dK []) as
  have asA : Aside c ⟨w.rho, w.S, upd w.H p (.dK [])⟩ p := ⟨as.nr, as.nS, as.nc⟩
  have bB := bA.aside (o := .dK (mergeK [] [(.inr k1, .int v1), (.inr k2, .int v2), (.inr k3, .int v3)])) asA
  have asB : Aside c ⟨w.rho, w.S, upd (upd w.H p (.dK [])) p (.dK (mergeK [] [(.inr k1, .int v1), (.inr k2, .int v2), (.inr k3, .int v3)]))⟩ p := ⟨as.nr, as.nS, as.nc⟩
  refine h _ _ σ _ bB.self fun u y w2 z2 b2 l2 r2 ⟨k, v, e1, hf, hq⟩ => ?_
  subst e1
  cases Dp_str r2
  obtain ⟨as2, hD2⟩ := asB.on bB upd_same b2
  refine ⟨p, .int v, rfl, .inl ⟨_, .inr k, .inl hD2, rfl, ?_⟩, ?_⟩
  · unfold valV
    rw [hf]
    rfl
  · exact hk _ _ w2 z2 (bB.comp b2) ((le_aside (w := w)).trans ((le_aside (w := ⟨w.rho, w.S, upd w.H p (.dK [])⟩)).trans l2)) (vI v) hq
end
end Dl

namespace Dl
open PySem PySem.Spec L2
open PyProof.Rows hiding St

/-! ### a, b, c = x, y, z -/
section
variable {X : Cx} {z : Z} {Q : Out → Prop} {pos : Pos}
theorem swap3 {x y u : Str} {a b c : Expr} {px py pu pt : Pos} {kt k2 pt2} (hk : X.env.scope.kind = .function) (hx : X.env.scope.names.lookup x = some .local) (hy : X.env.scope.names.lookup y = some .local) (hu : X.env.scope.names.lookup u = some .local) (hxy : (x == y) = false) (hxu : (x == u) = false) (hyu : (y == u) = false)
    (hl2 : (py.line == px.line) = true := by rfl) (hl3 : (pu.line == px.line) = true := by rfl) (hs : ([a, b, c].any fun | .Starred .. => true | _ => false) = false := by rfl) (h1 : [a, b, c].all (foldedForSure 8) = false := by rfl) (h2 : [a, b, c].all (constantsAlone 8) = false := by rfl) :
    swappedStores [.Tuple [.Name x px, .Name y py, .Name u pu] kt pt] (.Tuple [a, b, c] k2 pt2) X.env = pure (some [x, y, u]) := by
  have kx : X.env.kindOf x = some .local := hx
  have ky : X.env.kindOf y = some .local := hy
  have ku : X.env.kindOf u = some .local := hu
  have hb : X.env.blockKind = .function := by unfold Env.blockKind; rw [hk]; rfl
  have hyx : (y == x) = false := by rw [Bool.beq_comm]; exact hxy
  have hux : (u == x) = false := by rw [Bool.beq_comm]; exact hxu
  have huy : (u == y) = false := by rw [Bool.beq_comm]; exact hyu
  unfold swappedStores
  simp only [hb, kx, ky, ku, hl2, hl3, h1, h2, hs, List.head?, Option.map, Option.getD, Expr.pos, List.filterMap, List.length]
  simp [hxy, hyx, hux, huy, hxu, hyu, List.eraseDups, List.eraseDupsBy, List.eraseDupsBy.loop, kx, ky, ku, hl2, hl3]
  intro h
  rw [List.any_cons, List.any_cons, List.any_cons, Bool.or_eq_false_iff, Bool.or_eq_false_iff, Bool.or_eq_false_iff] at hs
  rcases h with h | h | h
  · exact absurd (h.symm.trans hs.1) (by simp)
  · exact absurd (h.symm.trans hs.2.1) (by simp)
  · exact absurd (h.symm.trans hs.2.2.1) (by simp)
theorem w1_par3 {n m o : Nat} {x y u : Str} {a b e : Expr} {px py pu pt : Pos} {kt k2 pt2} (hN : X.N.Nodup) (hi : X.N[n]? = some x) (hj : X.N[m]? = some y) (hl : X.N[o]? = some u) (hnm : n ≠ m) (hno : n ≠ o) (hmo : m ≠ o)
    (h : WE X a z fun v1 z1 => WE X b z1 fun v2 z2 => WE X e z2 fun v3 z3 => Q (.nx ⟨((z3.sl.set n v1).set m v2).set o v3, z3.ob⟩))
    (hw : swappedStores [.Tuple [.Name x px, .Name y py, .Name u pu] kt pt] (.Tuple [a, b, e] k2 pt2) X.env = pure (some [x, y, u]))
    (hs : swapsWithSole [.Tuple [.Name x px, .Name y py, .Name u pu] kt pt] (.Tuple [a, b, e] k2 pt2) pos.line X.env = pure false)
    (hx : X.env.scope.names.lookup x = some .local) (hy : X.env.scope.names.lookup y = some .local) (hu : X.env.scope.names.lookup u = some .local) (hc : X.calm = true)
    (he : starEach [a, b, e] X.env = (false, eval a X.env) :: starEach [b, e] X.env := by rfl) (he2 : starEach [b, e] X.env = (false, eval b X.env) :: starEach [e] X.env := by rfl) (he3 : starEach [e] X.env = (false, eval e X.env) :: starEach [] X.env := by rfl) :
    W1 X (.Assign [.Tuple [.Name x px, .Name y py, .Name u pu] kt pt] (.Tuple [a, b, e] k2 pt2) pos) z Q := fun c w σ D bb hk =>
  tS_of (ps_par3 hc hN hi hj hl hnm hno hmo hx hy hu (pa_cons peB (pa_cons peB (pa_cons peB pa_nil he3) he2) he) hw hs) (h c w σ _ bb fun v x w1 z1 b1 l1 r1 h1 => h1 c w1 σ _ b1 fun u y w2 z2 b2 l2 r2 h2 => h2 c w2 σ _ b2 fun t s w3 z3 b3 l3 r3 hq =>
    ⟨v, u, t, rfl, hk.nx w3 _ _ (((b3.setSl (r1.mono (l2.trans l3))).setSl (r2.mono l3)).setSl r3) ((l1.trans l2).trans l3) hq⟩)
end
end Dl

namespace Dl
open PySem PySem.Spec L2
open PyProof.Rows hiding St

/-! ### a box first, then data, by a number of draws -/
structure Bx.G (b : Bx) : Prop where
  a0 : 0 ≤ b.a
  s0 : 0 ≤ b.s
  s1 : b.s < 1099511627776
  c0 : 0 ≤ b.c
def BoxE (Pre : List PyData → Prop) (cost : Nat) (Post : List PyData → PyData → Prop) : Rl := fun xs om Q => ∃ (b : Bx) (ds : List PyData), xs = .ob 0 :: ds.map .sh ∧ om = [b.o] ∧ b.G ∧ b.c + (cost : Int) ≤ 1099511627776 ∧ Pre ds ∧
  ∀ (d : PyData) (b' : Bx), Post ds d → b'.G → b'.c ≤ b.c + (cost : Int) → Q (.sh d) [b'.o]
theorem Bx.G.ok {b : Bx} {n : Nat} (h : b.G) (k : b.c + (n : Int) ≤ 1099511627776) : b.Ok n := ⟨h.a0, h.s0, h.s1, h.c0, k⟩
theorem Bx.Ok.g {b : Bx} {n : Nat} (h : b.Ok n) : b.G := ⟨h.a0, h.s0, h.s1, h.c0⟩
theorem Df.e {P : Program} {w : World} {K : PySem.W.Frag} {mg : Str → Option Value} {base : Heap} {x : Str} {k : Nat} {ps : List Str} {Pre : List PyData → Prop} {cost : Nat} {Post : List PyData → PyData → Prop} (D : Df P w K mg base x k ps (BoxD Pre (fun _ => cost) Post)) : Df P w K mg base x k ps (BoxE Pre cost Post) :=
  D.imp fun xs om Q ⟨b, ds, e1, e2, hG, hc, hp, hq⟩ => ⟨Q, ⟨b, ds, e1, e2, hG.ok hc, hp, fun d b' h1 h2 => hq d b' h1 h2.ok.g h2.le⟩, fun _ _ h => h⟩
section
variable {X : Cx} {x : Str} {p pos : Pos} {e : Expr} {es : List Expr} {z : Z} {Q : Sl → Z → Prop} {k kk : Nat} {ps : List Str}
theorem Cf.bd {Pre : List PyData → Prop} {cost : Nat} {Post : List PyData → PyData → Prop} (c : Cf X x k ps (BoxE Pre cost Post)) : Cf X x k ps (BoxD Pre (fun _ => cost) Post) := ⟨c.g, Df.imp c.d fun xs om Q ⟨b, ds, e1, e2, hk, hp, hq⟩ => ⟨Q, ⟨b, ds, e1, e2, hk.g, hk.c1, hp, fun d b' h1 h2 h3 => hq d b' h1 ⟨⟨h2.a0, h2.s0, h2.s1, h2.c0, by have : b.c + (cost : Int) ≤ 1099511627776 := hk.c1; show b'.c + ((0 : Nat) : Int) ≤ _; omega⟩, h3⟩⟩, fun _ _ h => h⟩⟩
theorem we_cE {Pre : List PyData → Prop} {cost : Nat} {Post : List PyData → PyData → Prop} (c : Cf X x k ps (BoxE Pre cost Post)) (hr : RoomG kk X.A) (hle : k ≤ kk)
    (h : WA X (e :: es) z fun xs z1 => ∃ i ys ds b, xs = .ob i :: ys ∧ Dl.allSh ys = some ds ∧ z1.ob[i]? = some (Bx.o b) ∧ b.G ∧ b.c + (cost : Int) ≤ 1099511627776 ∧ Pre ds ∧ xs.length = ps.length ∧ ∀ (d : PyData) (b' : Bx), Post ds d → b'.G → b'.c ≤ b.c + (cost : Int) → Q (.sh d) ⟨z1.sl, z1.ob.set i b'.o⟩)
    (he : starEach (e :: es) X.env = (false, eval e X.env) :: starEach es X.env) (hpl : (backTo pos (starEach es X.env)).any (·.1) = false) : WE X (.Call (.Name x p) (e :: es) [] pos) z Q :=
  we_cX c.bd hr hle (h.mono fun xs z1 ⟨i, ys, ds, b, e1, e2, e3, hG, hc, hp, hl, hq⟩ => ⟨i, ys, ds, b, e1, e2, e3, hG.ok hc, hp, hl, fun d b' h1 h2 => hq d b' h1 h2.ok.g h2.le⟩) he hpl
/-- by a letter of the caller's own -/
def BoxA {α : Type} (Pre : α → List PyData → Prop) (cost : Nat) (Post : α → List PyData → PyData → Prop) : Rl := fun xs om Q => ∃ a : α, BoxE (Pre a) cost (Post a) xs om Q
theorem Cf.at {α : Type} {Pre : α → List PyData → Prop} {cost : Nat} {Post : α → List PyData → PyData → Prop} (c : Cf X x k ps (BoxA Pre cost Post)) (a : α) : Cf X x k ps (BoxE (Pre a) cost (Post a)) := ⟨c.g, Df.imp c.d fun xs om Q h => ⟨Q, ⟨a, h⟩, fun _ _ h => h⟩⟩
end
end Dl

namespace Dl
open PySem PySem.Spec L2
open PyProof.Rows hiding St

/-! ### a module's table of ints by texts, as the head finds it -/
structure TabG (K : PySem.W.Frag) (w : World) (mg : Str → Option Value) (x : Str) (f : Str → Option Int) : Prop where
  ex : ∃ (d : Addr) (es : Array DictEntry) (n : Nat), KDict K w d es n ∧ mg x = some (.ref d) ∧ ∀ k : Str, ∃ r : Option Value, PySem.W.nsIn K d k = some r ∧ ((r = none ∧ f k = none) ∨ ∃ i t, r = some (.int i t) ∧ f k = some i)
theorem tab_here {P : Program} {w : World} {K : PySem.W.Frag} {mg : Str → Option Value} {base : Heap} {X : Cx} {N : List Str} {sc : Scope} {k : Nat} {x : Str} {f : Str → Option Int} (g : Good X P w K mg base N sc k) (T : TabG K w mg x f) : TabI X x f := ⟨by
  rw [g.K, g.w, g.mg]
  exact T.ex⟩
theorem keyOf_mem {P : Params} : ∀ {l : List DictEntry} {ks : List Str}, l.map He.keyOf = He.keysIn P ks → ∀ e ∈ l, ∃ x t, e.key = .str x t ∧ x ∈ ks
  | [], _, _, e, he => by cases he
  | d :: l, [], h, _, _ => by cases h
  | d :: l, k :: ks, h, e, he => by
    have h1 : He.keyOf d :: l.map He.keyOf = some (k, PyData.keyHash P k) :: He.keysIn P ks := h
    injection h1 with h2 h3
    rcases List.mem_cons.mp he with rfl | he
    · unfold He.keyOf at h2
      split at h2
      · rename_i x t q
        have h4 := Option.some.inj h2
        exact ⟨x, t, q, by rw [(Prod.mk.inj h4).1]; exact List.mem_cons_self⟩
      · cases h2
    · obtain ⟨x, t, h5, h6⟩ := keyOf_mem h3 e he
      exact ⟨x, t, h5, List.mem_cons_of_mem _ h6⟩
theorem dicW_es {K : PySem.W.Frag} {a : Addr} {r : List (Option (Str × Int))} {oc : Value} {od : Option Addr} {es : Array DictEntry} {n : Nat} {sl : Array (Option Value)} (h : He.dicW K a = some r) (q : K.lookup a = some ⟨oc, od, .dict es n, sl⟩) : es.toList.map He.keyOf = r := by
  unfold He.dicW at h
  rw [q] at h
  cases oc with
  | type c =>
    cases od with
    | none =>
      have h1 : (match decide (c = "dict") && (sl.isEmpty && !(a == sysModules)) with
            | true => some (es.toList.map He.keyOf)
            | false => none) = some r := h
      split at h1
      · exact Option.some.inj h1
      · cases h1
    | some b => cases h
  | _ => cases h
theorem lookup_memI {k : Str} {i : Int} : ∀ {l : List (Str × Int)}, l.lookup k = some i → (k, i) ∈ l
  | [], h => by cases h
  | (b, u) :: r, h => by
    rw [List.lookup_cons] at h
    split at h
    · rename_i e
      rw [Option.some.inj h, beq_iff_eq.mp e]
      exact List.mem_cons_self
    · exact List.mem_cons_of_mem _ (lookup_memI h)
theorem lookup_noneI {k : Str} : ∀ {l : List (Str × Int)}, l.lookup k = none → k ∉ l.map (·.1)
  | [], _ => by simp
  | (b, u) :: r, h => by
    rw [List.lookup_cons] at h
    split at h
    · cases h
    · rename_i e
      intro hm
      rcases List.mem_cons.mp hm with hm | hm
      · rw [hm] at e
        simp at e
      · exact lookup_noneI h hm
theorem tabG_mk {K : PySem.W.Frag} {w : World} {mg : Str → Option Value} {x : Str} {kvs : List (Str × Int)} (hm : mg x = some (.ref (He.ga K x))) (hd : He.dicW K (He.ga K x) = some (He.keysIn w.params (kvs.map (·.1)))) (hv : He.valsB K (He.ga K x) (kvs.map fun q => (q.1, He.Dv.int q.2)) = true) :
    TabG (thin K) w mg x (fun k => kvs.lookup k) := by
  obtain ⟨es, n, D⟩ := He.dicW_ok hd
  have hl : (thin K).lookup (He.ga K x) = some ⟨.type "dict", none, .dict es n, #[]⟩ := thin_lookup D.at_ rfl
  have hes := dicW_es hd D.at_
  refine ⟨_, es, n, ⟨hl, D.lit, D.low⟩, hm, fun k => ?_⟩
  have hns : PySem.W.nsIn (thin K) (He.ga K x) k = PySem.W.nsIn K (He.ga K x) k := by
    unfold PySem.W.nsIn
    rw [hl, D.at_]
  rw [hns]
  cases e : kvs.lookup k with
  | some i =>
    obtain ⟨u, h1, h2⟩ := He.valsB_ok hv (q := (k, He.Dv.int i)) (List.mem_map.mpr ⟨(k, i), lookup_memI e, rfl⟩)
    obtain ⟨t, rfl⟩ : ∃ t, u = .int i t := h2
    exact ⟨_, h1, .inr ⟨i, t, rfl, rfl⟩⟩
  | none =>
    refine ⟨none, ?_, .inl ⟨rfl, rfl⟩⟩
    have hk := lookup_noneI e
    have hf : es.toList.find? (·.key.isStr k) = none := by
      rw [List.find?_eq_none]
      intro d hd2
      obtain ⟨y, t, h1, h2⟩ := keyOf_mem hes d hd2
      rw [h1]
      show ¬ (y == k) = true
      intro q
      rw [beq_iff_eq.mp q] at h2
      exact hk h2
    have ha : es.toList.any (·.refKey) = false := by
      rw [List.any_eq_false]
      intro d hd2
      obtain ⟨y, t, h1, h2⟩ := keyOf_mem hes d hd2
      unfold DictEntry.refKey
      rw [h1]
      simp
    unfold PySem.W.nsIn
    rw [D.at_]
    simp only [hf, ha]
    rfl
end Dl

namespace Dl
open PySem PySem.Spec L2
open PyProof.Rows hiding St

/-! ### dicts by pairs -/
section
variable {κ β : Type} [DecidableEq κ]
def valG (kvs : List (κ × β)) (k : κ) : Option β := (kvs.find? fun kv => decide (kv.1 = k)).map (·.2)
def putG (kvs : List (κ × β)) (k : κ) (v : β) : List (κ × β) := if (kvs.any fun kv => decide (kv.1 = k)) = true then kvs.map (fun kv => if kv.1 = k then (kv.1, v) else kv) else kvs ++ [(k, v)]
def mergeG (kvs more : List (κ × β)) : List (κ × β) := more.foldl (fun acc kv => putG acc kv.1 kv.2) kvs
end
/-- entries side by side -/
def PKV {κ β : Type} (F : V → β → Prop) (l : List (κ × V)) (m : List (κ × β)) : Prop := Paired (fun p q => p.1 = q.1 ∧ F p.2 q.2) l m
section
variable {κ β : Type} [DecidableEq κ] {F : V → β → Prop}
theorem PKV.any {l : List (κ × V)} {m : List (κ × β)} (h : PKV F l m) (k : κ) : (l.any fun kv => decide (kv.1 = k)) = (m.any fun kv => decide (kv.1 = k)) := by
  induction h with
  | nil => rfl
  | cons q _ ih => rw [List.any_cons, List.any_cons, ih, q.1]
theorem PKV.val {l : List (κ × V)} {m : List (κ × β)} (h : PKV F l m) (k : κ) : (valV l k = none ∧ valG m k = none) ∨ ∃ v d, valV l k = some v ∧ valG m k = some d ∧ F v d := by
  induction h with
  | nil => exact .inl ⟨rfl, rfl⟩
  | @cons p q ps qs hq _ ih =>
    by_cases e : p.1 = k
    · exact .inr ⟨p.2, q.2, by simp [valV, List.find?_cons, e], by simp [valG, List.find?_cons, ← hq.1, e], hq.2⟩
    · have e' : ¬ q.1 = k := by rw [← hq.1]; exact e
      have h1 : valV (p :: ps) k = valV ps k := by simp [valV, List.find?_cons, e]
      have h2 : valG (q :: qs) k = valG qs k := by simp [valG, List.find?_cons, e']
      rw [h1, h2]
      exact ih
theorem PKV.put {l : List (κ × V)} {m : List (κ × β)} (h : PKV F l m) (k : κ) {v : V} {d : β} (hv : F v d) : PKV F (putK l k v) (putG m k d) := by
  unfold putK putG
  rw [h.any k]
  split
  · rename_i hc
    clear hc
    induction h with
    | nil => exact .nil
    | @cons p q ps qs hq _ ih =>
      rw [List.map_cons, List.map_cons]
      refine .cons ?_ ih
      by_cases e : p.1 = k
      · rw [if_pos e, if_pos (by rw [← hq.1]; exact e)]
        exact ⟨hq.1, hv⟩
      · rw [if_neg e, if_neg (by rw [← hq.1]; exact e)]
        exact hq
  · exact paired_app h (.cons ⟨rfl, hv⟩ .nil)
theorem PKV.fst {l : List (κ × V)} {m : List (κ × β)} (h : PKV F l m) : l.map (·.1) = m.map (·.1) := by
  induction h with
  | nil => rfl
  | cons q _ ih => rw [List.map_cons, List.map_cons, ih, q.1]
theorem PKV.snd {l : List (κ × V)} {m : List (κ × β)} (h : PKV F l m) : Paired F (l.map (·.2)) (m.map (·.2)) := by
  induction h with
  | nil => exact .nil
  | cons q _ ih => exact .cons q.2 ih
theorem PKV.of : ∀ {l : List (κ × V)} {m : List (κ × β)}, l.map (·.1) = m.map (·.1) → Paired F (l.map (·.2)) (m.map (·.2)) → PKV F l m
  | [], [], _, _ => .nil
  | [], _ :: _, h, _ => by cases h
  | _ :: _, [], h, _ => by cases h
  | p :: l, q :: m, h, h2 => by
    rw [List.map_cons, List.map_cons] at h h2
    injection h with h3 h4
    cases h2 with
    | cons r t => exact .cons ⟨h3, r⟩ (PKV.of h4 t)
theorem PKV.mono {G : V → β → Prop} {l : List (κ × V)} {m : List (κ × β)} (h : PKV F l m) (q : ∀ v d, F v d → G v d) : PKV G l m := Paired.mono (fun _ _ z => ⟨z.1, q _ _ z.2⟩) h
theorem zip_self : ∀ l : List (κ × V), (l.map (·.1)).zip (l.map (·.2)) = l
  | [] => rfl
  | p :: l => by rw [List.map_cons, List.map_cons, List.zip_cons_cons, zip_self l]
theorem zip_fst' : ∀ {ks : List κ} {vs : List V}, ks.length = vs.length → (ks.zip vs).map (·.1) = ks
  | [], [], _ => rfl
  | k :: ks, v :: vs, h => by rw [List.zip_cons_cons, List.map_cons, zip_fst' (by simpa using h)]
theorem zip_snd' : ∀ {ks : List κ} {vs : List V}, ks.length = vs.length → (ks.zip vs).map (·.2) = vs
  | [], [], _ => rfl
  | k :: ks, v :: vs, h => by rw [List.zip_cons_cons, List.map_cons, zip_snd' (by simpa using h)]
end
/-- a dict of the store -/
def dkO (kvs : List (Key × Sl)) : OO := .dk (kvs.map (·.1)) (kvs.map (·.2))
def dtO (kvs : List (List Key × Sl)) : OO := .dt (kvs.map (·.1)) (kvs.map (·.2))
theorem dk_at {K : PySem.W.Frag} {w : Wd} {p : Addr} {kvs : List (Key × Sl)} (h : Ob K w p (dkO kvs)) : w.S p = none ∧ ∃ l, w.H p = some (.dK l) ∧ PKV (Vl K w) l kvs := by
  obtain ⟨hS, vs, hH, hv⟩ := h
  have hl : (kvs.map (·.1)).length = vs.length := by rw [hv.length, List.length_map, List.length_map]
  exact ⟨hS, _, hH, PKV.of (by rw [zip_fst' hl]) (by rw [zip_snd' hl]; exact hv)⟩
theorem dk_ob {K : PySem.W.Frag} {w : Wd} {p : Addr} {kvs : List (Key × Sl)} {l : List (Key × V)} (hS : w.S p = none) (hH : w.H p = some (.dK l)) (h : PKV (Vl K w) l kvs) : Ob K w p (dkO kvs) := by
  refine ⟨hS, l.map (·.2), ?_, h.snd⟩
  rw [← h.fst, zip_self]
  exact hH
theorem dt_at {K : PySem.W.Frag} {w : Wd} {p : Addr} {kvs : List (List Key × Sl)} (h : Ob K w p (dtO kvs)) : w.S p = none ∧ ∃ l, w.H p = some (.dT l) ∧ PKV (Vl K w) l kvs := by
  obtain ⟨hS, vs, hH, hv⟩ := h
  have hl : (kvs.map (·.1)).length = vs.length := by rw [hv.length, List.length_map, List.length_map]
  exact ⟨hS, _, hH, PKV.of (by rw [zip_fst' hl]) (by rw [zip_snd' hl]; exact hv)⟩
/-- data of a dict -/
def dicD (es : List (Key × PyData)) : PyData := .dict (es.map fun q => (kD q.1, q.2))
theorem kD_inj {k k' : Key} (h : kD k = kD k') : k = k' := by
  cases k <;> cases k' <;> simp [kD] at h <;> rw [h]
theorem dicD_inj : ∀ {a b : List (Key × PyData)}, (a.map fun q => (kD q.1, q.2)) = (b.map fun q => (kD q.1, q.2)) → a = b
  | [], [], _ => rfl
  | [], _ :: _, h => by cases h
  | _ :: _, [], h => by cases h
  | p :: a, q :: b, h => by
    rw [List.map_cons, List.map_cons] at h
    injection h with h1 h2
    rw [dicD_inj h2]
    obtain ⟨p1, p2⟩ := p
    obtain ⟨q1, q2⟩ := q
    have h3 := Prod.mk.inj h1
    have h4 : p1 = q1 := kD_inj h3.1
    have h5 : p2 = q2 := h3.2
    rw [h4, h5]
theorem Dq_dic {K : PySem.W.Frag} {H : Hp} {v : V} {es : List (Key × PyData)} (h : Dq K H v (dicD es)) : ∃ a l, v = .ref a ∧ H a = some (.dK l) ∧ PKV (Dq K H) l es := by
  unfold dicD at h
  generalize e : (PyData.dict (es.map fun q => (kD q.1, q.2))) = d at h
  cases h with
  | dic h1 h2 h3 =>
    injection e with e
    rw [dicD_inj e]
    exact ⟨_, _, rfl, h1, PKV.of h2 (DqAll_paired h3)⟩
  | _ => cases e
theorem dic_Dq {K : PySem.W.Frag} {H : Hp} {a : Addr} {l : List (Key × V)} {es : List (Key × PyData)} (h : H a = some (.dK l)) (q : PKV (Dq K H) l es) : Dq K H (.ref a) (dicD es) := .dic h q.fst (paired_DqAll q.snd)
theorem kV_Dq {K : PySem.W.Frag} {H : Hp} {v : V} {k : Key} (h : Dq K H v (kD k)) : v = kV k := by
  cases k <;> (unfold kD at h; cases h; rfl)
section
variable {X : Cx} {z : Z} {Q : Sl → Z → Prop} {pos pos' apos cpos : Pos} {o i e f value : Expr}
/-! d.get(k, x), d[k] -/
theorem we_dget2F (hu : X.A.units + 1 < cLine) (m : M2 X o "get" apos e f cpos) (h : WE X o z fun x z1 => ∃ es, x = .sh (dicD es) ∧ WE X e z1 fun y z2 => WE X f z2 fun u z3 => ∃ k, y = .sh (kD k) ∧ Q (((valG es k).map Sl.sh).getD u) z3) :
    WE X (.Call (.Attribute o "get" apos) [e, f] [] cpos) z Q := fun c w σ kk bb hk =>
  tE_of (pe_dget2 hu peB peB peB m) (h c w σ _ bb fun v x w1 z1 b1 l1 r1 ⟨es, ex, h1⟩ => by
    subst ex
    obtain ⟨a, l, rfl, ha, hp⟩ := Dq_dic r1
    refine ⟨a, rfl, .inl ⟨l, .inl (b1.same _ _ ha)⟩, h1 c w1 σ _ b1 fun v2 y w2 z2 b2 l2 r2 h2 => h2 c w2 σ _ b2 fun v3 u w3 z3 b3 l3 r3 ⟨k, ey, hq⟩ => ?_⟩
    subst ey
    have ev := kV_Dq r2
    subst ev
    have ha3 := b3.same _ _ (l3.st _ _ (l2.st _ _ ha))
    refine ⟨_, DGet.k ha3, ?_⟩
    have l13 := (l1.trans l2).trans l3
    rcases hp.val k with ⟨e1, e2⟩ | ⟨v4, d, e1, e2, hd⟩
    · rw [e1]
      rw [e2] at hq
      exact hk _ _ w3 z3 b3 l13 r3 hq
    · rw [e1]
      rw [e2] at hq
      exact hk _ _ w3 z3 b3 l13 (vsh (Dp_mono l3.st (Dp_mono l2.st hd))) hq)
theorem we_dget2O (hu : X.A.units + 1 < cLine) (m : M2 X o "get" apos e f cpos) (h : WE X o z fun x z1 => ∃ n kvs, x = .ob n ∧ z1.ob[n]? = some (dkO kvs) ∧ WE X e z1 fun y z2 => WE X f z2 fun u z3 => ∃ kvs3 k, z3.ob[n]? = some (dkO kvs3) ∧ y = .sh (kD k) ∧ Q ((valG kvs3 k).getD u) z3) :
    WE X (.Call (.Attribute o "get" apos) [e, f] [] cpos) z Q := fun c w σ kk bb hk =>
  tE_of (pe_dget2 hu peB peB peB m) (h c w σ _ bb fun v x w1 z1 b1 l1 r1 ⟨n, kvs, ex, hn, h1⟩ => by
    subst ex
    obtain ⟨a, ha, rfl⟩ := r1
    obtain ⟨_, l, hl, _⟩ := dk_at (b1.ob n _ a hn ha)
    refine ⟨a, rfl, .inl ⟨l, .inl hl⟩, h1 c w1 σ _ b1 fun v2 y w2 z2 b2 l2 r2 h2 => h2 c w2 σ _ b2 fun v3 u w3 z3 b3 l3 r3 ⟨kvs3, k, hn3, ey, hq⟩ => ?_⟩
    subst ey
    have ev := kV_Dq r2
    subst ev
    obtain ⟨_, l3', hl3, hp⟩ := dk_at (b3.ob n _ a hn3 (l3.rho n a (l2.rho n a ha)))
    refine ⟨_, DGet.k hl3, ?_⟩
    have l13 := (l1.trans l2).trans l3
    rcases hp.val k with ⟨e1, e2⟩ | ⟨v4, d, e1, e2, hd⟩
    · rw [e1]
      rw [e2] at hq
      exact hk _ _ w3 z3 b3 l13 r3 hq
    · rw [e1]
      rw [e2] at hq
      exact hk _ _ w3 z3 b3 l13 hd hq)
theorem we_dgetF (hu : X.A.units + 1 < cLine) (h : WE X o z fun x z1 => WE X i z1 fun y z2 => ∃ es k d, x = .sh (dicD es) ∧ y = .sh (kD k) ∧ valG es k = some d ∧ Q (.sh d) z2) (hs : NoSl i := by exact fun _ _ => rfl) : WE X (.Subscript o i pos) z Q := fun c w σ kk bb hk =>
  tE_of (pe_dget hu peB peB hs) (h c w σ _ bb fun v x w1 z1 b1 l1 r1 h1 => h1 c w1 σ _ b1 fun v2 y w2 z2 b2 l2 r2 ⟨es, k, d, ex, ey, hv, hq⟩ => by
    subst ex ey
    obtain ⟨a, l, rfl, ha, hp⟩ := Dq_dic r1
    have ev := kV_Dq r2
    subst ev
    rcases hp.val k with ⟨e1, e2⟩ | ⟨v4, d', e1, e2, hd⟩
    · rw [e2] at hv
      cases hv
    · rw [e2] at hv
      cases hv
      refine ⟨a, v4, rfl, ?_, hk _ _ w2 z2 b2 (l1.trans l2) (vsh (Dp_mono l2.st hd)) hq⟩
      rw [← e1]
      exact DGet.k (b2.same _ _ (l2.st _ _ ha)))
theorem we_dgetO (hu : X.A.units + 1 < cLine) (h : WE X o z fun x z1 => WE X i z1 fun y z2 => ∃ n kvs k u, x = .ob n ∧ z2.ob[n]? = some (dkO kvs) ∧ y = .sh (kD k) ∧ valG kvs k = some u ∧ Q u z2) (hs : NoSl i := by exact fun _ _ => rfl) : WE X (.Subscript o i pos) z Q := fun c w σ kk bb hk =>
  tE_of (pe_dget hu peB peB hs) (h c w σ _ bb fun v x w1 z1 b1 l1 r1 h1 => h1 c w1 σ _ b1 fun v2 y w2 z2 b2 l2 r2 ⟨n, kvs, k, u, ex, hn, ey, hv, hq⟩ => by
    subst ex ey
    obtain ⟨a, ha, rfl⟩ := r1
    have ev := kV_Dq r2
    subst ev
    obtain ⟨_, l, hl, hp⟩ := dk_at (b2.ob n _ a hn (l2.rho n a ha))
    rcases hp.val k with ⟨e1, e2⟩ | ⟨v4, d', e1, e2, hd⟩
    · rw [e2] at hv
      cases hv
    · rw [e2] at hv
      cases hv
      refine ⟨a, v4, rfl, ?_, hk _ _ w2 z2 b2 (l1.trans l2) hd hq⟩
      rw [← e1]
      exact DGet.k hl)
/-! {}, d[k] = v -/
theorem we_dnew (h : Q (.ob z.ob.length) ⟨z.sl, z.ob ++ [dkO []]⟩) : WE X (.Dict [] [] pos) z Q := fun c w σ kk bb hk =>
  tE_of pe_dnewK fun p hp => by
    refine hk (.ref p) (.ob z.ob.length) ⟨w.rho ++ [p], w.S, upd w.H p (.dK [])⟩ _ (bb.newG hp fun w' l hS hH => dk_ob hS hH .nil) le_obj ⟨p, ?_, rfl⟩ h
    show (w.rho ++ [p])[z.ob.length]? = some p
    rw [← bb.len, List.getElem?_append_right (Nat.le_refl _), Nat.sub_self]
    rfl
theorem w1_dput {P : Out → Prop} (hu : X.A.units + 1 < cLine) (h : WE X value z fun x z1 => WE X o z1 fun y z2 => WE X i z2 fun u z3 => ∃ n kvs k, y = .ob n ∧ z3.ob[n]? = some (dkO kvs) ∧ u = .sh (kD k) ∧ kvs.length < 100000 ∧ P (.nx ⟨z3.sl, z3.ob.set n (dkO (putG kvs k x))⟩))
    (hs : swapsWith value (some (.Subscript o i pos')) pos.line X.env = pure false := by rfl) : W1 X (.Assign [.Subscript o i pos'] value pos) z P := fun c w σ D bb hk =>
  tS_of (ps_dput hu peB peB peB hs) (h c w σ _ bb fun v x w1 z1 b1 l1 r1 h1 => h1 c w1 σ _ b1 fun v2 y w2 z2 b2 l2 r2 h2 => h2 c w2 σ _ b2 fun v3 u w3 z3 b3 l3 r3 ⟨n, kvs, k, ey, hn, eu, hz, hq⟩ => by
    subst ey eu
    obtain ⟨a, ha, rfl⟩ := r2
    have ev := kV_Dq r3
    subst ev
    have ha3 := l3.rho n a ha
    obtain ⟨hS, l, hl, hp⟩ := dk_at (b3.ob n _ a hn ha3)
    have hlen : l.length = kvs.length := Paired.length hp
    refine ⟨a, _, rfl, DPut.k hl (by rw [hlen]; exact Nat.lt_of_lt_of_le hz (by decide)), ?_⟩
    have r1' := (r1.mono l2).mono l3
    have b4 := b3.setG (oo := dkO (putG kvs k x)) hn ha3 hS (hu := .dK (putK l k v)) fun w' l' hS' hH' => dk_ob hS' hH' ((hp.put k r1').mono fun _ _ q => q.mono l')
    exact hk.nx ⟨w3.rho, w3.S, upd w3.H a (.dK (putK l k v))⟩ σ _ b4 (((l1.trans l2).trans l3).trans le_set) hq)
/-! sorted(d), its keys ints -/
theorem cd_sortedD (hc : X.calm = true) {n : Nat} {kvs : List (Key × Sl)} {ns : List Int} (hn : z.ob[n]? = some (dkO kvs)) (hk : kvs.map (·.1) = ns.map Sum.inl) (hd : ns.Nodup) (h64 : ns.length < 64) (h : Q (.sh (.list ((usort ns).map .int))) z) : CD X (.builtin "sorted") [.ob n] z Q := fun c w σ vs k b rr hkk => by
  obtain ⟨v, rfl, r⟩ := p1 rr
  obtain ⟨a, ha, rfl⟩ := r
  obtain ⟨_, l, hl, hp⟩ := dk_at (b.ob n _ a hn ha)
  refine cB_of (call_sortedDI hc) ⟨a, l, ns, rfl, .inl hl, by rw [hp.fst, hk], h64, fun ys p hperm hsort hp0 => ?_⟩
  have e : ys = usort ns := by
    refine usort_eq ?_ fun k => hperm.mem_iff
    have hnd : ys.Nodup := hperm.nodup_iff.mpr hd
    have := List.Pairwise.and hsort hnd
    exact this.imp fun q => by omega
  rw [e]
  exact newInts b hkk h p hp0
end
end Dl

namespace Dl
open PySem PySem.Spec L2
open PyProof.Rows hiding St

/-! ### dict(t), t a tuple of pairs -/
section
variable {X : Cx}
theorem pairs_ofV {pins : List (Addr × Obj)} {σ : St} {H : Hp} {s : Shared} (I : Inv X pins σ H s) : ∀ {ps : List Addr} {kvs : List (Key × V)}, Paired (fun p kv => SqT X.K H p [kV kv.1, kv.2]) ps kvs →
    ∃ (prs : List (Key × Value)) (raw : List (Value × Value)), KV kvs prs ∧ prs.length = ps.length ∧ raw.length = ps.length ∧ ∀ (j : Nat) (k v : Value), raw[j]? = some (k, v) → ∃ (b : Addr) (q : Key × Value), ps[j]? = some b ∧ s.heap.IsTuple b #[k, v] ∧ prs[j]? = some (q.1, v) ∧ keyIs q.1 k = true
  | _, _, .nil => ⟨[], [], .nil, rfl, rfl, fun j k v e => by simp at e⟩
  | _, _, .cons (a := p) (b := kv) h t => by
    obtain ⟨prs, raw, r, hl, hl2, hp⟩ := pairs_ofV I t
    obtain ⟨its, rv, ht, _⟩ := I.tuple h
    obtain ⟨u, y, ei, ru, ry⟩ := vals2 rv
    subst ei
    refine ⟨(kv.1, y) :: prs, (u, y) :: raw, .cons ⟨rfl, ry⟩ r, by rw [List.length_cons, List.length_cons, hl], by rw [List.length_cons, List.length_cons, hl2], fun j k v e => ?_⟩
    cases j with
    | zero =>
      have e' : (u, y) = (k, v) := Option.some.inj e
      cases e'
      obtain ⟨o, ho, hc, n, hd⟩ := ht
      exact ⟨p, (kv.1, y), rfl, ⟨o, ho, hc, n, hd⟩, rfl, kV_is (P := X.prog) (w := X.w) ru⟩
    | succ j =>
      obtain ⟨b, q, e1, e2, e3, e4⟩ := hp j k v (by simpa using e)
      exact ⟨b, q, by simpa using e1, e2, by simpa using e3, e4⟩
theorem PlT.plain {pins : List (Addr × Obj)} {σ : St} {H : Hp} {s : Shared} {a : Addr} {xs : List V} (I : Inv X pins σ H s) (h : PlT X.K H a xs) : ∃ its : List Value, Vals xs its ∧ PlainSeq "tuple" s.heap a its.toArray ∧ xs.length ≤ sizeLine := by
  rcases h with ⟨o, h, hd⟩ | ⟨o, its, n, h1, h2, h3, h4, h5, h6⟩
  · obtain ⟨hg, z, its, r, o', ho', hc, n, hdat⟩ := (show ObjOk X.prog X.w H s.heap a (.frz o (.tup xs)) from I.hok a _ h)
    rw [hg] at ho'
    cases ho'
    exact ⟨its, r, ⟨o, n, hg, hc, hd, hdat⟩, z⟩
  · refine ⟨its.toList, h6, ⟨o, n, I.kIn a o h1, h2, h3, by simpa using h4⟩, ?_⟩
    rw [h6.length]
    simpa using h5
theorem call_dictT (hcalm : X.calm = true) : CallR X (.type "dict") (fun xs H Q => ∃ (a : Addr) (ps : List Addr) (kvs : List (Key × V)), xs = [.ref a] ∧ PlT X.K H a (ps.map V.ref) ∧ Paired (fun p kv => SqT X.K H p [kV kv.1, kv.2]) ps kvs ∧
    ∀ p, H p = none → Q (.ref p) (upd H p (.dK (mergeK [] kvs)))) := by
  intro pins s σ H xs us Q I r q
  obtain ⟨a, ps, kvs, ex, hq, hp, q⟩ := q
  subst ex
  obtain ⟨u, eu, rx⟩ := vals1 r
  subst eu
  cases rx
  obtain ⟨its, rv, pl, hz⟩ := hq.plain I
  have ei := refs_at rv
  subst ei
  rw [List.length_map] at hz
  obtain ⟨prs, raw, rel, hl, hl2, hpr⟩ := pairs_ofV I hp
  have hraw : PairItems s.heap (ps.map Value.ref).toArray (fun j => ps.getD j 0) raw := by
    refine ⟨by simp [hl2], fun j k v e => ?_⟩
    obtain ⟨b, q', e1, e2, _, _⟩ := hpr j k v e
    have hb : ps.getD j 0 = b := by simp [List.getD, e1]
    show (ps.map Value.ref).toArray[j]? = some (.ref (ps.getD j 0)) ∧ PairAt s.heap (ps.getD j 0) k v
    rw [hb]
    exact ⟨by simp [e1], .inl e2⟩
  refine PySem.call_dict_pairs (knd := mixKind X.prog X.w) (kvs := prs) (PairArg.tuple a _ _ raw) (I.ok.hd hcalm) ⟨pl, hraw⟩ ⟨by rw [hl, hl2], fun i key v hr => ?_⟩ (by rw [hl2]; exact hz) fun h' tk hd' k => ?_
  · obtain ⟨b, q', _, _, e3, e4⟩ := hpr i key v hr
    exact ⟨q'.1, e3, e4⟩
  · have hm : (s.heap.objs.size == sysModules) = false := beq_eq_false_iff_ne.mpr (Nat.ne_of_gt I.big)
    have hlen : (mergeK [] kvs).length ≤ sizeLine := by
      refine Nat.le_trans (length_mergeK kvs []) ?_
      rw [List.length_nil, Nat.zero_add, rel.length, hl]
      exact hz
    exact ⟨.ref s.heap.objs.size, upd H s.heap.objs.size (.dK (mergeK [] kvs)), I.laid (t' := tk) (fun b o e => k b o (by simp) e) (Nat.le_refl _) (show ObjOk X.prog X.w _ _ _ (.dK (mergeK [] kvs)) from ⟨hlen, hm, merged [] prs, KV.merge rel .nil, hd'⟩), rfl, q _ (I.hok.fresh (Nat.le_refl _))⟩
end
section
variable {κ β : Type} [DecidableEq κ] {F : V → β → Prop}
theorem PKV.merge : ∀ {more : List (Key × V)} {rs : List (Key × β)} {l : List (Key × V)} {m : List (Key × β)}, PKV F more rs → PKV F l m → PKV F (mergeK l more) (mergeG m rs)
  | _, _, _, _, .nil, h => h
  | _, _, _, _, .cons (a := p) (b := q) hq t, h => by
    show PKV F (mergeK (putK _ p.1 p.2) _) (mergeG (putG _ q.1 q.2) _)
    refine PKV.merge t ?_
    rw [hq.1]
    exact h.put q.1 hq.2
end
def pairD (q : Key × PyData) : PyData := .tuple [kD q.1, q.2]
theorem pairs_dq {K : PySem.W.Frag} {H : Hp} : ∀ {es : List (Key × PyData)} {vs : List V}, DqAll K H vs (es.map pairD) → ∃ (ps : List Addr) (kvs : List (Key × V)), vs = ps.map V.ref ∧ Paired (fun p kv => SqT K H p [kV kv.1, kv.2]) ps kvs ∧ PKV (Dq K H) kvs es
  | [], _, .nil => ⟨[], [], rfl, .nil, .nil⟩
  | e :: es, _, .cons h t => by
    obtain ⟨ps, kvs, e1, h1, h2⟩ := pairs_dq t
    obtain ⟨a, xs, rfl, hs, hd⟩ := Dp_tupI h
    cases hd with
    | cons q1 t1 => cases t1 with
      | cons q2 t2 =>
        cases t2
        have ev := kV_Dq q1
        subst ev
        rename_i v2
        exact ⟨a :: ps, (e.1, v2) :: kvs, by rw [e1]; rfl, .cons hs h1, .cons ⟨rfl, q2⟩ h2⟩
section
variable {X : Cx} {z : Z} {Q : Sl → Z → Prop}
theorem new_dicF {K : PySem.W.Frag} {c : Ct} {w : Wd} {σ : St} {k : VK} {l : List (Key × V)} {es : List (Key × PyData)} (bb : B K c w σ z) (hv : PKV (Dq K w.S) l es) (hk : Cont K c w σ Q k) (h : Q (.sh (dicD es)) z) : ∀ p, w.H p = none → k (.ref p) (upd w.H p (.dK l)) := fun p hp => by
  have le : w.Le ⟨w.rho, upd w.S p (.dK l), upd w.H p (.dK l)⟩ := le_new (bb.freshS hp)
  exact hk (.ref p) (.sh (dicD es)) ⟨w.rho, upd w.S p (.dK l), upd w.H p (.dK l)⟩ z (bb.newS hp) le (dic_Dq upd_same (hv.mono fun _ _ q => Dp_mono le.st q)) h
/-- dict(t), dict(xs): data -/
theorem cd_dictT (hc : X.calm = true) {ds : List PyData} {es : List (Key × PyData)} (e : ds = es.map pairD) (h : Q (.sh (dicD (mergeG [] es))) z) : CD X (.type "dict") [.sh (.tuple ds)] z Q := fun c w σ vs k b rr hkk => by
  subst e
  obtain ⟨v, rfl, r⟩ := p1 rr
  obtain ⟨p, xs, rfl, h1, s1⟩ := Dp_tupP r
  obtain ⟨ps, kvs, e1, h2, h3⟩ := pairs_dq s1
  subst e1
  have h2' : Paired (fun p kv => SqT X.K w.H p [kV kv.1, kv.2]) ps kvs := Paired.mono (fun _ _ q => Same.tup b.same q) h2
  exact cB_of (call_dictT hc) ⟨p, ps, kvs, rfl, Same.pl b.same h1, h2', new_dicF b (PKV.merge h3 .nil) hkk h⟩
theorem cd_dictL (hc : X.calm = true) {ds : List PyData} {es : List (Key × PyData)} (e : ds = es.map pairD) (h : Q (.sh (dicD (mergeG [] es))) z) : CD X (.type "dict") [.sh (.list ds)] z Q := fun c w σ vs k b rr hkk => by
  subst e
  obtain ⟨v, rfl, r⟩ := p1 rr
  obtain ⟨p, xs, rfl, h1, s1⟩ := Dp_lstI r
  obtain ⟨ps, kvs, e1, h2, h3⟩ := pairs_dq s1
  subst e1
  have h2' : Paired (fun p kv => SqT X.K w.H p [kV kv.1, kv.2]) ps kvs := Paired.mono (fun _ _ q => Same.tup b.same q) h2
  exact cB_of (call_dictP hc) ⟨p, ps, kvs, rfl, .inl (Same.rd b.same h1), h2', new_dicF b (PKV.merge h3 .nil) hkk h⟩
end
end Dl

namespace Dl
open PySem PySem.Spec L2
open PyProof.Rows hiding St

section
variable {X : Cx} {z : Z} {Q : Sl → Z → Prop}
/-! ### x is True, of truths -/
theorem bool_beq (a b : Bool) : (Value.bool a == Value.bool b) = decide (a = b) := by cases a <;> cases b <;> decide +kernel
theorem op_isB : OpR X (compareOp .Is) (fun x y H Q => ∃ a b, x = .bl a ∧ y = .bl b ∧ Q (.bl (decide (a = b))) H) := by
  intro pins s σ H x y v u Q I rx ry h
  obtain ⟨a, b, rfl, rfl, q⟩ := h
  cases (show v = Value.bool a from rx)
  cases (show u = Value.bool b from ry)
  exact wpAny_is_plain rfl (fin_bl I q (bool_beq a b).symm)
theorem op_isNotB : OpR X (compareOp .IsNot) (fun x y H Q => ∃ a b, x = .bl a ∧ y = .bl b ∧ Q (.bl (!decide (a = b))) H) := by
  intro pins s σ H x y v u Q I rx ry h
  obtain ⟨a, b, rfl, rfl, q⟩ := h
  cases (show v = Value.bool a from rx)
  cases (show u = Value.bool b from ry)
  exact wpAny_isNot_plain rfl (fin_bl I q (by rw [bool_beq]))
theorem rd_isB {a b : Bool} (h : Q (.sh (.bool (decide (a = b)))) z) : RD X (compareOp .Is) (.sh (.bool a)) (.sh (.bool b)) z Q := fun c w σ v u k bb r1 r2 hk => by
  cases Dp_bl r1
  cases Dp_bl r2
  exact rB_of op_isB ⟨a, b, rfl, rfl, hk _ _ w z bb (.refl w) (vB _) h⟩
theorem rd_isNotB {a b : Bool} (h : Q (.sh (.bool (!decide (a = b)))) z) : RD X (compareOp .IsNot) (.sh (.bool a)) (.sh (.bool b)) z Q := fun c w σ v u k bb r1 r2 hk => by
  cases Dp_bl r1
  cases Dp_bl r2
  exact rB_of op_isNotB ⟨a, b, rfl, rfl, hk _ _ w z bb (.refl w) (vB _) h⟩
/-! ### t[::-1] of a tuple -/
theorem pick_rev {α : Type} (xs : List α) : pickC xs ((xs.length : Int) - 1) (-1) xs.length = xs.reverse := by
  cases xs with
  | nil => rfl
  | cons x xs =>
    have h := pick_back x xs
    unfold pickC at h ⊢
    rw [List.length_cons, List.range_succ, List.filterMap_append, h, List.reverse_cons]
    congr 1
    have e : (((xs.length + 1 : Nat) : Int) - 1 + ((xs.length : Nat) : Int) * (-1)).toNat = 0 := by omega
    simp only [List.filterMap_cons, List.filterMap_nil]
    rw [e]
    rfl
theorem s3_revT {ds : List PyData} (hl : ds.length < 100000) (h : Q (.sh (.tuple ds.reverse)) z) : S3 X (.sh (.tuple ds)) none none (-1) z Q := fun c w σ v k b r1 hk => by
  obtain ⟨p, xs, rfl, h1, s1⟩ := Dp_tupI r1
  intro pins s σ2 v vl vu vc sl I rx hs pl pu pc
  cases rx
  obtain ⟨its, r, ht, hz⟩ := I.tuple (Same.tup b.same h1)
  have hxl : xs.length = ds.length := DpAll_len s1
  have hil : its.toArray.size = ds.length := by rw [List.size_toArray, ← r.length]; exact hxl
  have hil2 : its.length = ds.length := by rw [← r.length]; exact hxl
  refine ⟨"tuple", _, PyProof.Rows.slot_tuple_getitem.lookup, ht.typeIs, ?_⟩
  have ea : Builtin.Slice.sliceAdjust none none (-1) (its.toArray.size : Int) = ((its.toArray.size : Int) - 1, -1) := by
    unfold Builtin.Slice.sliceAdjust
    rw [hil]
    simp
  have en : Builtin.Slice.slicePlaces ((its.toArray.size : Int) - 1) (-1) (-1) = ds.length := by
    unfold Builtin.Slice.slicePlaces
    rw [hil]
    by_cases h0 : ds.length = 0
    · rw [h0]
      decide
    · simp only [show ¬ (-1 : Int) > 0 by decide, if_false, show ((ds.length : Nat) : Int) - 1 > -1 by omega, if_true, show (- -1 : Int) = 1 by decide, Int.ediv_one]
      omega
  refine getItem_tuple_c (a := (its.toArray.size : Int) - 1) (n := ds.length) ht hs pl pu pc (by decide) (by decide) (by rw [ea]) (by rw [ea]; exact en) (Nat.le_of_lt (Nat.lt_of_lt_of_le hl (by decide))) ?_
  have e1 : pickC its.toArray.toList ((its.toArray.size : Int) - 1) (-1) ds.length = its.reverse := by
    rw [hil, ← hil2]
    exact pick_rev its
  rw [e1]
  have hfin := new_tup (Q := Q) b (paired_DqAll (paired_rev (DqAll_paired s1))) hk h _ { cls := .type "tuple", data := .seq its.reverse.toArray } (I.hok.fresh (Nat.le_refl _)) rfl
  refine ⟨.ref s.heap.objs.size, _, laidP I (paired_rev (F := RelV) r) (by rw [List.length_reverse]; exact hz), rfl, hfin⟩
end
end Dl

namespace Dl
open PySem PySem.Spec L2
open PyProof.Rows hiding St

section
variable {X : Cx} {z : Z} {Q : Sl → Z → Prop}
/-! ### d[k] as a subscript -/
theorem ix_dict (hu : X.A.units + 1 < cLine) : IxR X (fun x y H Q => ∃ a v, x = .ref a ∧ DGet H a y (some v) ∧ Q v H) := by
  intro value slice pins s σ H x y v u Q I rx ry h hs
  obtain ⟨a, v', rfl, g, q⟩ := h
  cases rx
  have hT := dict_typeIs I g
  unfold subscriptTail
  refine wpAny_bind ?_
  rw [getitemInPython_of_ne hT.not_modules]
  refine wpAny_bind (wpAny_specialOf hT PySem.F.slot_dict_getitem.lookup ?_)
  have h2 : wpAny (model X.prog X.w) X.A (getItem (.ref a) u) (EP X pins σ Q) X.xe s := d_getItem hu I g ry fun w' s3 I3 rw' => ⟨v', H, I3, rw', q⟩
  have fin : wpAny (model X.prog X.w) X.A (subscripted slice false (.ref a) u) (fun r s₃ => wpAny (model X.prog X.w) X.A (letTemporaryGo value (.ref a) r >>= fun _ => pure r) (EP X pins σ Q) X.xe s₃) X.xe s := by
    rw [hs]
    exact wpAny_operating (wpAny_mono h2 (fun r s₃ h₃ => wpAny_bind (wpAny_letTemporaryGo (wpAny_pure h₃))) fun _ _ x => x)
  first
    | exact wpAny_pure (wpAny_bind fin)
    | exact wpAny_bind (wpAny_pure (wpAny_bind fin))
    | exact wpAny_bind fin
theorem id_DO (hu : X.A.units + 1 < cLine) {n : Nat} {kvs : List (Key × Sl)} {k : Key} {d : PyData} {u : Sl} (hd : d = kD k) (hn : z.ob[n]? = some (dkO kvs)) (hv : valG kvs k = some u) (h : Q u z) : ID X (.ob n) (.sh d) z Q := fun c w σ v v2 kk b r1 r2 hk => by
  subst hd
  obtain ⟨a, ha, rfl⟩ := r1
  have ev := kV_Dq r2
  subst ev
  obtain ⟨_, l, hl, hp⟩ := dk_at (b.ob n _ a hn ha)
  rcases hp.val k with ⟨e1, e2⟩ | ⟨v4, d', e1, e2, hd⟩
  · rw [e2] at hv
    cases hv
  · rw [e2] at hv
    cases hv
    refine ixB_of (ix_dict hu) ⟨a, v4, rfl, ?_, hk _ _ w z b (.refl w) hd h⟩
    rw [← e1]
    exact DGet.k hl
theorem id_DF (hu : X.A.units + 1 < cLine) {es : List (Key × PyData)} {k : Key} {d e : PyData} (hd : d = kD k) (hv : valG es k = some e) (h : Q (.sh e) z) : ID X (.sh (dicD es)) (.sh d) z Q := fun c w σ v v2 kk b r1 r2 hk => by
  subst hd
  obtain ⟨a, l, rfl, ha, hp⟩ := Dq_dic r1
  have ev := kV_Dq r2
  subst ev
  rcases hp.val k with ⟨e1, e2⟩ | ⟨v4, d', e1, e2, hd⟩
  · rw [e2] at hv
    cases hv
  · rw [e2] at hv
    cases hv
    refine ixB_of (ix_dict hu) ⟨a, v4, rfl, ?_, hk _ _ w z b (.refl w) (vsh hd) h⟩
    rw [← e1]
    exact DGet.k (b.same _ _ ha)
end
/-! ### laws of look-ups -/
section
variable {κ β : Type} [DecidableEq κ]
theorem valG_putG (kvs : List (κ × β)) (k j : κ) (v : β) : valG (putG kvs k v) j = if k = j then some v else valG kvs j := by
  unfold putG
  split
  · rename_i h
    induction kvs with
    | nil => simp at h
    | cons p l ih =>
      rw [List.map_cons]
      by_cases e : p.1 = k
      · rw [if_pos e]
        by_cases ej : k = j
        · rw [if_pos ej]
          simp [valG, List.find?_cons, e, ej]
        · rw [if_neg ej]
          have h1 : valG ((p.1, v) :: l.map fun kv => if kv.1 = k then (kv.1, v) else kv) j = valG (l.map fun kv => if kv.1 = k then (kv.1, v) else kv) j := by simp [valG, List.find?_cons, e, ej]
          have h2 : valG (p :: l) j = valG l j := by simp [valG, List.find?_cons, e, ej]
          rw [h1, h2]
          by_cases ha : (l.any fun kv => decide (kv.1 = k)) = true
          · rw [ih ha, if_neg ej]
          · have : (l.map fun kv => if kv.1 = k then (kv.1, v) else kv) = l := by
              have hn : ∀ q ∈ l, ¬ q.1 = k := fun q hq eq => ha (List.any_eq_true.mpr ⟨q, hq, by simp [eq]⟩)
              exact (List.map_congr_left (g := fun q => q) (fun q hq => by rw [if_neg (hn q hq)])).trans (List.map_id' l)
            rw [this]
      · have h' : (l.any fun kv => decide (kv.1 = k)) = true := by
          rw [List.any_cons] at h
          simpa [e] using h
        rw [if_neg e]
        by_cases ej : p.1 = j
        · have hkj : ¬ k = j := fun q => e (ej.trans q.symm)
          rw [if_neg hkj]
          simp [valG, List.find?_cons, ej]
        · have h1 : valG (p :: l.map fun kv => if kv.1 = k then (kv.1, v) else kv) j = valG (l.map fun kv => if kv.1 = k then (kv.1, v) else kv) j := by simp [valG, List.find?_cons, ej]
          have h2 : valG (p :: l) j = valG l j := by simp [valG, List.find?_cons, ej]
          rw [h1, h2, ih h']
  · rename_i h
    have hn : ∀ q ∈ kvs, ¬ q.1 = k := fun q hq eq => h (List.any_eq_true.mpr ⟨q, hq, by simp [eq]⟩)
    unfold valG
    rw [List.find?_append]
    by_cases ej : k = j
    · subst ej
      have : kvs.find? (fun kv => decide (kv.1 = k)) = none := List.find?_eq_none.mpr fun q hq => by simpa using hn q hq
      rw [this]
      simp
    · rw [if_neg ej]
      cases kvs.find? (fun kv => decide (kv.1 = j)) <;> simp [ej]
theorem keys_putG (kvs : List (κ × β)) (k : κ) (v : β) : (putG kvs k v).map (·.1) = if k ∈ kvs.map (·.1) then kvs.map (·.1) else kvs.map (·.1) ++ [k] := by
  unfold putG
  by_cases h : k ∈ kvs.map (·.1)
  · have h2 : (kvs.any fun kv => decide (kv.1 = k)) = true := by
      obtain ⟨q, hq, e⟩ := List.mem_map.mp h
      exact List.any_eq_true.mpr ⟨q, hq, by simp [e]⟩
    rw [if_pos h2, if_pos h, List.map_map]
    refine List.map_congr_left fun q _ => ?_
    show (if q.1 = k then (q.1, v) else q).1 = q.1
    split <;> rfl
  · have h2 : ¬ (kvs.any fun kv => decide (kv.1 = k)) = true := fun q => by
      obtain ⟨r, hr, e⟩ := List.any_eq_true.mp q
      exact h (List.mem_map.mpr ⟨r, hr, by simpa using e⟩)
    rw [if_neg h2, if_neg h, List.map_append]
    rfl
theorem nodup_putG {kvs : List (κ × β)} (h : (kvs.map (·.1)).Nodup) (k : κ) (v : β) : ((putG kvs k v).map (·.1)).Nodup := by
  rw [keys_putG]
  split
  · exact h
  · rename_i hk
    exact List.nodup_append.mpr ⟨h, by simp, fun a ha b hb e => by
      rw [List.mem_singleton.mp hb] at e
      exact hk (e ▸ ha)⟩
theorem putG_new {kvs : List (κ × β)} {k : κ} (h : k ∉ kvs.map (·.1)) (v : β) : putG kvs k v = kvs ++ [(k, v)] := by
  unfold putG
  rw [if_neg]
  intro q
  obtain ⟨r, hr, e⟩ := List.any_eq_true.mp q
  exact h (List.mem_map.mpr ⟨r, hr, by simpa using e⟩)
theorem mergeG_nodup : ∀ {more kvs : List (κ × β)}, ((kvs ++ more).map (·.1)).Nodup → mergeG kvs more = kvs ++ more
  | [], kvs, _ => by simp [mergeG]
  | p :: more, kvs, h => by
    show mergeG (putG kvs p.1 p.2) more = _
    have h1 : p.1 ∉ kvs.map (·.1) := fun q => by
      rw [List.map_append, List.map_cons] at h
      exact (List.nodup_append.mp h).2.2 _ q _ List.mem_cons_self rfl
    rw [putG_new h1, mergeG_nodup (by simpa using h)]
    simp
theorem mem_putG {kvs : List (κ × β)} {k : κ} {v : β} {q : κ × β} (h : q ∈ putG kvs k v) : q = (k, v) ∨ q ∈ kvs := by
  unfold putG at h
  split at h
  · obtain ⟨r, hr, e⟩ := List.mem_map.mp h
    split at e
    · rename_i hk
      left
      rw [← e, hk]
    · right
      rw [← e]
      exact hr
  · rcases List.mem_append.mp h with h | h
    · exact .inr h
    · exact .inl (List.mem_singleton.mp h)
theorem len_putG (kvs : List (κ × β)) (k : κ) (v : β) : (putG kvs k v).length ≤ kvs.length + 1 := by
  unfold putG
  split <;> simp
theorem valG_mem : ∀ {kvs : List (κ × β)} {k : κ} {v : β}, (kvs.map (·.1)).Nodup → (k, v) ∈ kvs → valG kvs k = some v
  | p :: l, k, v, h, hm => by
    rw [List.map_cons, List.nodup_cons] at h
    by_cases e : p.1 = k
    · rcases List.mem_cons.mp hm with hm | hm
      · rw [← hm]
        simp [valG, List.find?_cons]
      · exact absurd (List.mem_map.mpr ⟨_, hm, e.symm⟩) h.1
    · have h2 : valG (p :: l) k = valG l k := by simp [valG, List.find?_cons, e]
      rw [h2]
      rcases List.mem_cons.mp hm with hm | hm
      · rw [← hm] at e
        exact absurd rfl e
      · exact valG_mem h.2 hm
end
end Dl

namespace Dl
open PySem PySem.Spec L2
open PyProof.Rows hiding St

/-! ### comprehensions by which the store is changed -/
section
variable {X : Cx} {tg elt t : Expr} {scope : Scope} {vs : List Nat} {g : TG} {Q : Sl → Z → Prop} {ys : List Sl} {G : Z → Prop} {z1 : Z}
theorem lcd_st (I : Nat → List PyData → List OO → Prop) (hlen : ys.length ≤ 100000) (h0 : I 0 [] z1.ob) (hG : ∀ i acc om, I i acc om → G ⟨wipeZ z1.sl vs, om⟩)
    (h : ∀ (i : Nat) (y : Sl) (acc : List PyData) (om : List OO), ys[i]? = some y → I i acc om → acc.length = i → GD X.K vs g y ⟨wipeZ z1.sl vs, om⟩ fun z2 => ∀ s H C cl fp, WE (Blk X scope s H C cl fp) elt z2 fun x z4 => ∃ d, x = .sh d ∧ I (i + 1) (acc ++ [d]) z4.ob)
    (hQ : ∀ acc om, I ys.length acc om → acc.length = ys.length → Q (.sh (.list acc)) ⟨z1.sl, om⟩) : LcD X tg elt [] scope vs g (FrzK Q) ys G z1 := by
  refine ⟨hlen, fun i acc om => ∃ ds : List PyData, acc = ds.map .sh ∧ ds.length = i ∧ I i ds om, ⟨[], rfl, rfl, h0⟩, ?_, ?_, ?_⟩
  · rintro i acc om ⟨ds, rfl, _, hI⟩
    exact hG i ds om hI
  · rintro i y acc om hy ⟨ds, rfl, hl, hI⟩ _
    intro c w σ v k bb r hk
    refine h i y ds om hy hI hl c w σ v k bb r fun w' σ' z' b' l hw hq => hk w' σ' z' b' l hw fun s H C cl fp => ?_
    refine ⟨fun _ s2 H2 C2 cl2 fp2 => (hq s2 H2 C2 cl2 fp2).mono fun x z4 ⟨d, e1, e2⟩ => ⟨ds ++ [d], by rw [e1, List.map_append]; rfl, by simp [hl], e2⟩, fun h => by cases h⟩
  · rintro acc om ⟨ds, rfl, hl, hI⟩ _
    exact ⟨ds, allSh_map ds, hQ ds om hI hl⟩
end
end Dl

namespace Dl
open PySem PySem.Spec L2
open PyProof.Rows hiding St

/-! ### texts -/
theorem strs_eq {K : PySem.W.Frag} {H : Hp} : ∀ {vs : List V} {ys : List Str}, DqAll K H vs (ys.map .str) → vs = ys.map .str
  | _, [], .nil => rfl
  | _, _ :: _, .cons q t => by
    rw [List.map_cons, strs_eq t, Dp_str q]
section
variable {X : Cx} {z : Z} {Q : Sl → Z → Prop} {o e : Expr} {apos pos p : Pos}
/-- sep.join(list of texts) -/
theorem we_join (h : WE X o z fun x z1 => ∃ a, x = .sh (.str a) ∧ WE X e z1 fun y z2 => ∃ ys : List Str, y = .sh (.list (ys.map .str)) ∧ (ys.map (·.length)).sum + ys.length * a.length ≤ 16777216 ∧ Q (.sh (.str (Txt.join a ys))) z2)
    (hs : starEach [e] X.env = [(false, eval e X.env)] := by rfl) (hbase : attributeBase o "join" X.env (eval o X.env) = eval o X.env := by rfl) (hline : (apos.endLine == pos.line) = true := by rfl) :
    WE X (.Call (.Attribute o "join" apos) [e] [] pos) z Q := fun c w σ k bb hk =>
  tE_of (pe_join peB peB hs hbase hline) (h c w σ _ bb fun v x w1 z1 b1 l1 r1 ⟨a, ex, h1⟩ => by
    subst ex
    cases Dp_str r1
    refine ⟨⟨a, rfl⟩, h1 c w1 σ _ b1 fun u y w2 z2 b2 l2 r2 ⟨ys, ey, hz, hq⟩ => ?_⟩
    subst ey
    obtain ⟨p, xs, rfl, hp, hd⟩ := Dp_lstI r2
    have e1 := strs_eq hd
    subst e1
    exact ⟨a, p, ys, rfl, rfl, .inl (.inl (Same.rd b2.same hp)), hz, hk _ _ w2 z2 b2 (l1.trans l2) (vS _) hq⟩)
theorem cd_strI {i : Int} (hi : i.natAbs.log2 < 1920) (h : Q (.sh (.str (toString i))) z) : CD X (.type "str") [.sh (.int i)] z Q := fun c w σ vs k b rr hk => by
  obtain ⟨v, rfl, r⟩ := p1 rr
  cases Dp_int r
  exact cB_of call_str_int ⟨i, rfl, hi, hk _ _ w z b (.refl w) (vS _) h⟩
/-- c in s, c one sign -/
theorem rd_inSg {c : Nat} {t : Str} (h : Q (.sh (.bool (decide (c ∈ t.cps.toList)))) z) : RD X (compareOp .In) (.sh (.str ⟨#[c]⟩)) (.sh (.str t)) z Q := fun c' w σ v u k b r1 r2 hk => by
  cases Dp_str r1
  cases Dp_str r2
  exact rB_of op_in_sign ⟨c, t, rfl, rfl, hk _ _ w z b (.refl w) (vB _) h⟩
end
section
variable {X : Cx} {tg iter e : Expr} {z : Z} {pos p tpos : Pos} {elts : List Expr} {kk : Nat} {R : List Sl → (Z → Prop) → Z → Prop}
def enumD (ds : List PyData) : List (List PyData) := ds.mapIdx fun i d => [.int (i : Nat), d]
theorem enumD_len (ds : List PyData) : (enumD ds).length = ds.length := by simp [enumD]
theorem enumD_get {ds : List PyData} {i : Nat} {q : List PyData} (h : (enumD ds)[i]? = some q) : ∃ d, ds[i]? = some d ∧ q = [.int (i : Nat), d] := by
  unfold enumD at h
  rw [List.getElem?_mapIdx] at h
  obtain ⟨d, h1, h2⟩ := Option.map_eq_some_iff.mp h
  exact ⟨d, h1, h2.symm⟩
theorem wi_enum (hm : X.mg "enumerate" = none) (h : WE X e z fun x z1 => ∃ ds, x = .sh (.list ds) ∧ R ((enumD ds).map .tp) (fun _ => True) z1) (hg : Gl X "enumerate" := by rfl) (hs : starEach [e] X.env = [(false, eval e X.env)] := by rfl) :
    WI X (.Tuple elts kk tpos) (.Call (.Name "enumerate" p) [e] [] pos) z R := fun c w σ k bb hk =>
  tI_of (pi_enum hg hm (pa_cons peB pa_nil hs) hs) (h c w σ _ bb fun v x w1 z1 b1 l1 r1 ⟨ds, ex, hR⟩ => by
    subst ex
    obtain ⟨a, xs, rfl, h1, s1⟩ := Dp_lstI r1
    have e1 := DpAll_len s1
    have hlen : ((enumD ds).map Sl.tp).length = ds.length := by rw [List.length_map, enumD_len]
    refine ⟨a, xs, rfl, .inl (Same.rd b1.same h1), hk _ _ _ w1 z1 b1 l1 ⟨fun i c' w3 σ3 z3 hi b3 l3 _ => ?_, fun c' w3 σ3 z3 b3 l3 _ => ?_, fun i c' w3 σ3 z3 x H' y hy b3 l3 _ hyl => ?_⟩ hR⟩
    · rw [hlen] at hi
      exact ⟨xs, xs[i]'(by omega), .inl (Same.rd b3.same (Same.rd l3.st h1)), List.getElem?_eq_getElem _⟩
    · rw [hlen]
      exact ⟨xs, .inl (Same.rd b3.same (Same.rd l3.st h1)), by omega⟩
    · obtain ⟨T, x1, rfl, hT, rfl, f1⟩ := hyl
      rw [List.getElem?_map] at hy
      obtain ⟨q, hq, rfl⟩ := Option.map_eq_some_iff.mp hy
      obtain ⟨d, g1, rfl⟩ := enumD_get hq
      obtain ⟨v1, q1, t1⟩ := paired_get (DqAll_paired s1) g1
      have e3 := f1 xs (.inl (Same.rd b3.same (Same.rd l3.st h1)))
      rw [q1] at e3
      cases e3
      exact pair_new b3 hT (.int _) (Dp_mono l3.st t1))
/-- for c in a text -/
def signsD (t : Str) : List Sl := t.cps.toList.map fun c => .sh (.str ⟨#[c]⟩)
theorem wi_str (h : WE X iter z fun x z1 => ∃ t, x = .sh (.str t) ∧ R (signsD t) (fun _ => True) z1) : WI X tg iter z R := fun c w σ k bb hk =>
  tI_of (pi_str peB) (h c w σ _ bb fun v x w1 z1 b1 l1 r1 ⟨t, ex, hR⟩ => by
    subst ex
    cases Dp_str r1
    have hl : (signsD t).length = t.cps.size := by simp [signsD]
    refine ⟨t, rfl, hk _ _ _ w1 z1 b1 l1 ⟨fun i c' w3 σ3 z3 hi b3 l3 _ => ?_, fun c' w3 σ3 z3 b3 l3 _ => ?_, fun i c' w3 σ3 z3 x H' y hy b3 l3 _ hyl => ?_⟩ hR⟩
    · rw [hl] at hi
      exact hi
    · rw [hl]
      exact Nat.le_refl _
    · obtain ⟨e, cc, hc, rfl⟩ := hyl
      unfold signsD at hy
      rw [List.getElem?_map] at hy
      obtain ⟨c2, h2, rfl⟩ := Option.map_eq_some_iff.mp hy
      rw [Array.getElem?_toList, hc] at h2
      cases h2
      exact ⟨w3, e.symm, b3, .refl w3, vS _⟩)
end
end Dl

namespace Dl
open PySem PySem.Spec L2 PpSet
open PyProof.Rows hiding St

/-! ### sorted({x for .. for ..}) of ints -/
section
variable {X : Cx} {tg iter elt tg1 iter1 : Expr} {scope : Scope} {z : Z} {pos pos' p : Pos} {own : List (Str × Nat)} {vs1 : List Nat} {g g1 : TG} {Q : Sl → Z → Prop}
def Sc2D (X : Cx) (elt tg1 iter1 : Expr) (scope : Scope) (vs vs1 : List Nat) (g g1 : TG) (Q : List Int → Z → Prop) : List Sl → (Z → Prop) → Z → Prop := fun ys G z1 => G ⟨wipeZ z1.sl vs, z1.ob⟩ ∧ ∃ fs : List (List Int), ys.length = fs.length ∧ fs.flatten.length < 3000 ∧
  (∀ (i : Nat) (y : Sl) (ns : List Int), ys[i]? = some y → fs[i]? = some ns → GD X.K vs g y ⟨wipeZ z1.sl vs, z1.ob⟩ fun z2 => ∀ s H C cl fp, WI (Blk X scope s H C cl fp) tg1 iter1 z2 fun ys1 G1 z3 => z3 = z2 ∧ ys1 = ns.map (fun n => .sh (.int n)) ∧ G1 ⟨wipeZ z2.sl vs1, z2.ob⟩ ∧ z2.ob = z1.ob ∧
    ∀ n ∈ ns, GD X.K vs1 g1 (.sh (.int n)) ⟨wipeZ z2.sl vs1, z2.ob⟩ fun z4 => ∀ s H C cl fp, WE (Blk X scope s H C cl fp) elt z4 fun x z5 => x = .sh (.int n) ∧ z5.ob = z1.ob) ∧
  (usort fs.flatten).length < 64 ∧ Q (usort fs.flatten) z1
theorem sc2_ok {P : List Int → Z → Prop} {c : Ct} {w : Wd} {σ : St} {k : VK} (bb : B X.K c w σ z) (h : WI X tg iter z (Sc2D X elt tg1 iter1 scope (own.map (·.2)) vs1 g g1 P))
    (hk : ∀ ms z1 w1, B X.K c w1 σ z1 → w.Le w1 → P ms z1 → ∀ q, w1.H q = none → k (.ref q) (upd w1.H q (.lst (ms.map V.int)))) :
    tSc2 X.w (tI X tg iter) g tYes (fun σ H R => ∀ s H0 C cl fp, tI (Blk X scope s H0 C cl fp) tg1 iter1 σ H R) g1 tYes (fun σ H Q => ∀ s H0 C cl fp, tE (Blk X scope s H0 C cl fp) elt σ H Q) (own.map (·.2)) vs1 σ w.H (fun x H1 => rSortedSet X.w [x] H1 k) := by
  refine h c w σ _ bb fun J ys G w1 z1 b1 l1 dw ⟨hG, fs, hl, hft, hs, h64, hP⟩ D hD => ?_
  have as1 : Aside c w1 D := b1.asideNew hD
  refine ⟨fun i m H' => m = ys.length - i ∧ i ≤ ys.length ∧ ∃ w' S n, B X.K c w' σ z1 ∧ w1.Le w' ∧ w'.H = H' ∧ Aside c w' D ∧ w'.H D = some (SetO X.w D S n) ∧ n = (usort (fs.take i).flatten).length ∧ ∀ k, S k = true ↔ k ∈ (fs.take i).flatten,
    ⟨ys.length, by simp, Nat.zero_le _, ⟨w1.rho, w1.S, upd w1.H D (SetO X.w D (fun _ => false) 0)⟩, fun _ => false, 0, b1.aside as1, le_aside, rfl, ⟨as1.nr, as1.nS, as1.nc⟩, upd_same, rfl, fun k => by simp⟩, ?_⟩
  rintro i m H2 ⟨rfl, hi, w2, S, n, b2, l2, rfl, as2, hD2, hn, hS⟩
  have bw := b2.wipe (own.map (·.2))
  by_cases hlt : i < ys.length
  · refine .inr ⟨dw.goes i c w2 _ _ hlt bw l2 hG, fun H' => ∃ w' S n, B X.K c w' σ z1 ∧ w1.Le w' ∧ w'.H = H' ∧ Aside c w' D ∧ w'.H D = some (SetO X.w D S n) ∧ n = (usort (fs.take (i + 1)).flatten).length ∧ ∀ k, S k = true ↔ k ∈ (fs.take (i + 1)).flatten,
      fun H' q => ⟨ys.length - (i + 1), by omega, rfl, hlt, q⟩, fun x H' y => ?_⟩
    have hy : ys[i]? = some ys[i] := List.getElem?_eq_getElem hlt
    have hif : i < fs.length := by omega
    obtain ⟨ns, hns⟩ : ∃ ns, ns = fs[i] := ⟨_, rfl⟩
    have hf : fs[i]? = some ns := by rw [hns]; exact List.getElem?_eq_getElem hif
    have efl : (fs.take (i + 1)).flatten = (fs.take i).flatten ++ ns := by
      rw [List.take_add_one, hf, List.flatten_append]
      simp
    have hlen : (fs.take i).flatten.length + ns.length < 3000 := by
      have h1 : ((fs.take (i + 1)).flatten ++ (fs.drop (i + 1)).flatten) = fs.flatten := by rw [← List.flatten_append, List.take_append_drop]
      have h2 := congrArg List.length h1
      rw [efl, List.length_append, List.length_append] at h2
      omega
    obtain ⟨w3, rfl, b3, l3, r3⟩ := dw.yields i w2.ct w2 _ _ x H' ys[i] hy bw.self l2 hG y
    refine hs i ys[i] ns hy hf w2.ct w3 _ x _ b3 r3 fun w4 σ4 z4 b4 l4 hwp hw => ⟨hwp.trans (wipe_wipe σ _), ?_⟩
    simp only [tYes, if_true]
    intro s0 H0 C cl fp
    refine hw s0 H0 C cl fp w2.ct w4 σ4 _ b4 fun J1 ys1 G1 w5 z5 b5 l5 dw1 ⟨e5, ey1, hG1, eob, hin⟩ => ?_
    subst e5 ey1
    have b5 : B X.K w2.ct w5 σ4 z5 := b5
    have l25 : w2.Le w5 := (l3.trans l4).trans l5
    have b5c : B X.K c w5 σ z1 := by
      have := b2.slots (b2.comp b5) l25
      rw [eob] at this
      exact this
    obtain ⟨as5, hD5⟩ := as2.on b2 hD2 b5
    refine ⟨fun j k H' => k = ns.length - j ∧ j ≤ ns.length ∧ ∃ w' S n, B X.K c w' σ z1 ∧ w5.Le w' ∧ w'.H = H' ∧ Aside c w' D ∧ w'.H D = some (SetO X.w D S n) ∧ n = (usort ((fs.take i).flatten ++ ns.take j)).length ∧ ∀ k, S k = true ↔ k ∈ (fs.take i).flatten ++ ns.take j,
      ⟨ns.length, by simp, Nat.zero_le _, w5, S, n, b5c, .refl w5, rfl, as5, hD5, by rw [List.take_zero, List.append_nil]; exact hn, fun k => by rw [List.take_zero, List.append_nil]; exact hS k⟩, ?_⟩
    rintro j k6 H6 ⟨rfl, hj, w6, S6, n6, b6, l6, rfl, as6, hD6, hn6, hS6⟩
    have b6' : B X.K c w6 σ4 z5 := by
      have := b5.slots b6 l6
      rw [← eob] at this
      exact this
    have bw6 := b6'.wipe vs1
    have hly : (ns.map (fun n => Sl.sh (.int n))).length = ns.length := List.length_map _
    by_cases hjl : j < ns.length
    · refine .inr ⟨dw1.goes j c w6 _ _ (by rw [hly]; exact hjl) bw6 l6 hG1, fun H' => ∃ w' S n, B X.K c w' σ z1 ∧ w5.Le w' ∧ w'.H = H' ∧ Aside c w' D ∧ w'.H D = some (SetO X.w D S n) ∧ n = (usort ((fs.take i).flatten ++ ns.take (j + 1))).length ∧ ∀ k, S k = true ↔ k ∈ (fs.take i).flatten ++ ns.take (j + 1),
        fun H' q => ⟨ns.length - (j + 1), by omega, rfl, hjl, q⟩, fun x1 H7 y1 => ?_⟩
      have hnj : ns[j]? = some ns[j] := List.getElem?_eq_getElem hjl
      obtain ⟨w7, rfl, b7, l7, r7⟩ := dw1.yields j w6.ct w6 _ _ x1 H7 (.sh (.int ns[j])) (by rw [List.getElem?_map, hnj]; rfl) bw6.self l6 hG1 y1
      refine hin ns[j] (List.getElem_mem hjl) w6.ct w7 _ x1 _ b7 r7 fun w8 σ8 z8 b8 l8 hwp8 hw8 => ⟨hwp8.trans (wipe_wipe σ4 _), ?_⟩
      try simp only [tYes, if_true]
      intro s1 H1 C1 cl1 fp1
      refine hw8 s1 H1 C1 cl1 fp1 w6.ct w8 σ8 _ b8 fun u x9 w9 z9 b9 l9 r9 ⟨e9, eo9⟩ => ?_
      subst e9
      have b9 : B X.K w6.ct w9 σ8 z9 := b9
      obtain ⟨as9, hD9⟩ := as6.on b6 hD6 b9
      have l69 : w6.Le w9 := (l7.trans l8).trans l9
      have b9c : B X.K c w9 σ z1 := by
        have := b6.slots (b6.comp b9) l69
        rw [eo9] at this
        exact this
      have hn6l : n6 < 3000 := by
        have q1 := usort_len ((fs.take i).flatten ++ ns.take j)
        rw [List.length_append, List.length_take] at q1
        omega
      have ef : (fs.take i).flatten ++ ns.take (j + 1) = ((fs.take i).flatten ++ ns.take j) ++ [ns[j]] := by
        rw [List.take_add_one, hnj, List.append_assoc]
        rfl
      refine ⟨ns[j], S6, n6, Dp_int r9, hD9, by show n6 + 1 < 4096; omega, ⟨w9.rho, w9.S, upd w9.H D (SetO X.w D (fun q => S6 q || decide (q = ns[j])) (if S6 ns[j] = true then n6 else n6 + 1))⟩, _, _, b9c.aside as9, (l6.trans l69).trans le_aside, rfl, ⟨as9.nr, as9.nS, as9.nc⟩, upd_same, ?_, fun q => ?_⟩
      · rw [ef]
        split
        · rename_i hSv
          rw [usort_old ((hS6 _).mp hSv)]
          exact hn6
        · rename_i hSv
          rw [usort_more fun q => hSv ((hS6 _).mpr q), hn6]
      · rw [ef, Bool.or_eq_true, hS6 q, decide_eq_true_eq, List.mem_append (s := (fs.take i).flatten ++ ns.take j), List.mem_singleton]
    · have e : j = ns.length := by omega
      subst e
      rw [List.take_of_length_le (Nat.le_refl _), ← efl] at hn6 hS6
      exact .inl ⟨by
        have := dw1.stops c w6 _ _ bw6 l6 hG1
        rw [hly] at this
        exact this, w6, S6, n6, b6, (l2.trans l25).trans l6, rfl, as6, hD6, hn6, hS6⟩
  · have e : i = ys.length := by omega
    subst e
    rw [hl, List.take_of_length_le (Nat.le_refl _)] at hn hS
    refine .inl ⟨dw.stops c w2 _ _ bw l2 hG, D, S, n, rfl, hD2, by
      rw [hn]
      exact h64, fun ms q h1 h2 _ hq => ?_⟩
    have e2 : ms = usort fs.flatten := usort_eq h1 fun k => by rw [h2 k, hS k]
    rw [e2]
    exact hk _ z1 w2 b2 (l1.trans l2) hP q hq
theorem we_sortSc2 {P : List Int → Z → Prop} (hb : Bi X "sorted" "sorted") (hN : X.N.Nodup) (ok : BlkOk X.N X.env.scope scope own) (hv : ∀ i ∈ vs1, i ∈ own.map (·.2)) (hg : ∀ s H C cl fp, PG (Blk X scope s H C cl fp) tg g) (hg1 : ∀ s H C cl fp, PG (Blk X scope s H C cl fp) tg1 g1) (hc : X.calm = true)
    (hP : ∀ ms z1, P ms z1 → Q (.sh (.list (ms.map .int))) z1 ∨ Q (.ob z1.ob.length) ⟨z1.sl, z1.ob ++ [.lst ((ms.map PyData.int).map .sh)]⟩)
    (h : WI X tg iter z (Sc2D X elt tg1 iter1 scope (own.map (·.2)) vs1 g g1 P)) (hs : ∀ x, foldedSetIterable iter X.env x = pure x) (hs1 : ∀ env x, foldedSetIterable iter1 env x = pure x)
    (he : starEach [.SetComp elt [⟨tg, iter, [], 0⟩, ⟨tg1, iter1, [], 0⟩] scope pos'] X.env = (false, eval (.SetComp elt [⟨tg, iter, [], 0⟩, ⟨tg1, iter1, [], 0⟩] scope pos') X.env) :: starEach [] X.env) (hpl : (backTo pos (starEach [] X.env)).any (·.1) = false) :
    WE X (.Call (.Name "sorted" p) [.SetComp elt [⟨tg, iter, [], 0⟩, ⟨tg1, iter1, [], 0⟩] scope pos'] [] pos) z Q := by
  intro c w σ k bb hk
  have pe : ∀ s H C cl fp, PE (Blk X scope s H C cl fp) elt (fun σ H Q => ∀ s H0 C cl fp, tE (Blk X scope s H0 C cl fp) elt σ H Q) := fun s H C cl fp => ⟨fun pins s1 σ H1 Q I h => h s H C cl fp pins s1 I⟩
  have pi : ∀ s H C cl fp, PI (Blk X scope s H C cl fp) tg1 iter1 (fun σ H R => ∀ s H0 C cl fp, tI (Blk X scope s H0 C cl fp) tg1 iter1 σ H R) := fun s H C cl fp => ⟨fun pins s1 σ H1 R I h => h s H C cl fp pins s1 I⟩
  refine tE_of (pe_callB (cr_sortedSet hc) hb.g.g hb.m hb.v (pa_cons (pe_sc2 hc hN piB ok hv hg (fun _ _ _ _ _ => pts_nil) pi hg1 (fun _ _ _ _ _ => pts_nil) pe hs hs1) pa_nil he) hb.g.n hb.g.d he hpl) ?_
  exact sc2_ok bb h fun ms z1 w1 b1 l1 hp => by
    rcases hP ms z1 hp with q | q
    · exact newInts b1 (hk.le l1) q
    · exact newIntsO b1 (hk.le l1) q
end
end Dl

namespace Dl
open PySem PySem.Spec L2
open PyProof.Rows hiding St
section
variable {X : Cx} {P : Program} {w : World} {K : PySem.W.Frag} {mg : Str → Option Value} {base : Heap} {N : List Str} {sc : Scope} {k : Nat}
theorem Good.inBI (g : Good X P w K mg base N sc k) {scope : Scope} {s : Shared} {H : Hp} {C : Addr} {cl : List (Str × Addr)} {fp : List Addr} {tg e : Expr} {z : Z} {R : List Sl → (Z → Prop) → Z → Prop} (l : List (Str × Nat)) (gl : List Str) (h1 : l.all (nmB N (relS scope sc)) = true) (h2 : gl.all (gnB (relS scope sc)) = true)
    (h : Nms (Blk X scope s H C cl fp) l → Gns (Blk X scope s H C cl fp) gl → WI (Blk X scope s H C cl fp) tg e z R) : WI (Blk X scope s H C cl fp) tg e z R := h (g.bnm h1) (g.bgn h2)
end
section
variable {X : Cx} {tg iter elt tg1 iter1 : Expr} {scope : Scope} {z : Z} {pos pos' p : Pos} {own : List (Str × Nat)} {vs1 : List Nat} {g g1 : TG} {Q : Sl → Z → Prop}
theorem we_sortSc2O (hb : Bi X "sorted" "sorted") (hN : X.N.Nodup) (ok : BlkOk X.N X.env.scope scope own) (hv : ∀ i ∈ vs1, i ∈ own.map (·.2)) (hg : ∀ s H C cl fp, PG (Blk X scope s H C cl fp) tg g) (hg1 : ∀ s H C cl fp, PG (Blk X scope s H C cl fp) tg1 g1) (hc : X.calm = true)
    (h : WI X tg iter z (Sc2D X elt tg1 iter1 scope (own.map (·.2)) vs1 g g1 (SortO Q))) (hs : ∀ x, foldedSetIterable iter X.env x = pure x) (hs1 : ∀ env x, foldedSetIterable iter1 env x = pure x)
    (he : starEach [.SetComp elt [⟨tg, iter, [], 0⟩, ⟨tg1, iter1, [], 0⟩] scope pos'] X.env = (false, eval (.SetComp elt [⟨tg, iter, [], 0⟩, ⟨tg1, iter1, [], 0⟩] scope pos') X.env) :: starEach [] X.env) (hpl : (backTo pos (starEach [] X.env)).any (·.1) = false) :
    WE X (.Call (.Name "sorted" p) [.SetComp elt [⟨tg, iter, [], 0⟩, ⟨tg1, iter1, [], 0⟩] scope pos'] [] pos) z Q := we_sortSc2 hb hN ok hv hg hg1 hc (fun _ _ h => .inr h) h hs hs1 he hpl
end
end Dl

namespace Dl
open PySem PySem.Spec L2
open PyProof.Rows hiding St
/-! ### a, b = x, y where a tuple is made -/
def swN (sc : Scope) (ts vs : List Expr) : Bool := !(ts.length == 2 || ts.length == 3) || vs.length != ts.length || ((ts.filterMap fun
    | .Name id pos => if sc.names.lookup id == some .local && pos.line == (ts.head?.map (·.pos.line)).getD 0 then some id else none
    | _ => none).length != ts.length)
theorem sw_none {env : Env} {sc : Scope} {ts vs : List Expr} {k k2 : Nat} {p p2 : Pos} (es : env.scope = sc) (h : swN sc ts vs = true) : swappedStores [.Tuple ts k p] (.Tuple vs k2 p2) env = pure none := by
  subst es
  unfold swN at h
  rw [Bool.or_eq_true, Bool.or_eq_true] at h
  unfold swappedStores
  simp only []
  split
  · rfl
  · rename_i h1
    rw [Bool.or_eq_true, Bool.or_eq_true, not_or, not_or] at h1
    split
    · rfl
    · rcases h with (h | h) | h
      · exact absurd h h1.1.1
      · exact absurd h h1.1.2
      · have h' : (ts.filterMap fun
            | .Name id pos => if env.kindOf id == some .local && pos.line == (ts.head?.map (·.pos.line)).getD 0 then some id else none
            | _ => none).length != ts.length := h
        split
        · rfl
        · rename_i h3
          rw [Bool.or_eq_true, not_or] at h3
          exact absurd h' h3.1
section
variable {X : Cx} {z : Z} {Q : Sl → Z → Prop}
/-- list(xs) as a new list of the store -/
theorem cd_listLO {ds : List PyData} (h : Q (.ob z.ob.length) ⟨z.sl, z.ob ++ [.lst (ds.map .sh)]⟩) : CD X (.type "list") [.sh (.list ds)] z Q := fun c w σ vs k b rr hk => by
  obtain ⟨v, rfl, r⟩ := p1 rr
  obtain ⟨p, xs, rfl, h1, s1⟩ := Dp_lstI r
  exact cB_of call_list_of ⟨p, xs, rfl, .inl (.inl (Same.rd b.same h1)), new_lst b (dp_allSh s1) hk h⟩
end
end Dl

namespace Dl
open PySem PySem.Spec L2
open PyProof.Rows hiding St
section
variable {X : Cx} {z : Z} {Q : Sl → Z → Prop}
/-! ### a list of the store beside data -/
theorem ob_dp {K : PySem.W.Frag} {c : Ct} {w : Wd} {σ : St} (b : B K c w σ z) {i : Nat} {xs : List Sl} {ds : List PyData} {v : V} (ho : z.ob[i]? = some (.lst xs)) (hx : allSh xs = some ds) (h : Vl K w v (.ob i)) (n : SeqAt.shaped (.list ds) = true) : L2.Dp K w.H v (.list ds) := by
  obtain ⟨p, hp, rfl⟩ := h
  obtain ⟨_, vs, hH, hv⟩ := b.ob i _ p ho hp
  exact (Dq.lst (.inl hH) (DpAll_mono b.same (allSh_dp hx hv))).dp (shaped_nd n)
theorem rd_neO {i : Nat} {xs : List Sl} {ds : List PyData} {e : PyData} (hu : X.A.units + 64 < cLine) (ho : z.ob[i]? = some (.lst xs)) (hx : allSh xs = some ds) (hd : SeqAt.shaped (.list ds) = true) (he : SeqAt.shaped e = true) (h : Q (.sh (.bool (!PyData.eqv (.list ds) e))) z) : RD X (compareOp .NotEq) (.ob i) (.sh e) z Q := fun c w σ v u k b r1 r2 hk =>
  rB_of (op_neD hu) ⟨_, e, ob_dp b ho hx r1 hd, r2.dp b he, hd, he, hk _ _ w z b (.refl w) (vB _) h⟩
theorem rd_eqO {i : Nat} {xs : List Sl} {ds : List PyData} {e : PyData} (hu : X.A.units + 64 < cLine) (ho : z.ob[i]? = some (.lst xs)) (hx : allSh xs = some ds) (hd : SeqAt.shaped (.list ds) = true) (he : SeqAt.shaped e = true) (h : Q (.sh (.bool (PyData.eqv (.list ds) e))) z) : RD X (compareOp .Eq) (.ob i) (.sh e) z Q := fun c w σ v u k b r1 r2 hk =>
  rB_of (op_eqD hu) ⟨_, e, ob_dp b ho hx r1 hd, r2.dp b he, hd, he, hk _ _ w z b (.refl w) (vB _) h⟩
theorem cd_tupO {i : Nat} {xs : List Sl} {ds : List PyData} (ho : z.ob[i]? = some (.lst xs)) (hx : allSh xs = some ds) (h : Q (.sh (.tuple ds)) z) : CD X (.type "tuple") [.ob i] z Q := fun c w σ vs k b rr hk => by
  obtain ⟨v, rfl, p, hp, rfl⟩ := p1 rr
  obtain ⟨_, us, hH, hv⟩ := b.ob i _ p ho hp
  exact cB_of call_tupleP ⟨p, us, rfl, .inl ⟨.inl (.inl hH), new_tup b (allSh_dp hx hv) hk h⟩⟩
end
section
variable {X : Cx} {tg elt t : Expr} {scope : Scope} {vs : List Nat} {g : TG} {Q : Sl → Z → Prop} {ys : List Sl} {G : Z → Prop} {z1 : Z}
theorem lcd_stI (I : Nat → List PyData → List OO → Prop) (hlen : ys.length ≤ 100000) (h0 : I 0 [] z1.ob) (hG : ∀ i acc om, I i acc om → G ⟨wipeZ z1.sl vs, om⟩)
    (h : ∀ (i : Nat) (y : Sl) (acc : List PyData) (om : List OO), ys[i]? = some y → I i acc om → acc.length ≤ i → GD X.K vs g y ⟨wipeZ z1.sl vs, om⟩ fun z2 => ∀ s H C cl fp, WT (Blk X scope s H C cl fp) t z2 fun b z3 =>
      (b = true → ∀ s H C cl fp, WE (Blk X scope s H C cl fp) elt z3 fun x z4 => ∃ d, x = .sh d ∧ I (i + 1) (acc ++ [d]) z4.ob) ∧ (b = false → I (i + 1) acc z3.ob))
    (hQ : ∀ acc om, I ys.length acc om → acc.length ≤ ys.length → Q (.sh (.list acc)) ⟨z1.sl, om⟩) : LcD X tg elt [t] scope vs g (FrzK Q) ys G z1 := by
  refine ⟨hlen, fun i acc om => ∃ ds : List PyData, acc = ds.map .sh ∧ ds.length ≤ i ∧ I i ds om, ⟨[], rfl, Nat.le_refl _, h0⟩, ?_, ?_, ?_⟩
  · rintro i acc om ⟨ds, rfl, _, hI⟩
    exact hG i ds om hI
  · rintro i y acc om hy ⟨ds, rfl, hl, hI⟩ _
    intro c w σ v k bb r hk
    refine h i y ds om hy hI hl c w σ v k bb r fun w' σ' z' b' l hw hq => hk w' σ' z' b' l hw fun s H C cl fp => ?_
    refine (hq s H C cl fp).mono fun b z3 ⟨ht, hf⟩ => ⟨fun h1 s2 H2 C2 cl2 fp2 => (ht h1 s2 H2 C2 cl2 fp2).mono fun x z4 ⟨d, e1, e2⟩ => ⟨ds ++ [d], by rw [e1, List.map_append]; rfl, by simp; omega, e2⟩, fun h1 => ⟨ds, rfl, by omega, hf h1⟩⟩
  · rintro acc om ⟨ds, rfl, hl, hI⟩ _
    exact ⟨ds, allSh_map ds, hQ ds om hI hl⟩
end
end Dl

namespace Dl
open PySem PySem.Spec L2
open PyProof.Rows hiding St
/-! ### x = [.. for ..] -/
def swLB (sc : Scope) (scope : Scope) (y : Str) (py pos : Pos) : Bool := (if sc.kind.isAnnotationScope then ScopeKind.function else sc.kind) == .function && sc.names.lookup y == some .local && py.line == pos.line && !(scope.names.any fun (n, k) => n == y && (k == .local || k == .cell))
theorem sw_lc {env : Env} {sc scope : Scope} {elt : Expr} {gs : List Comprehension} {y : Str} {py pos : Pos} {ln : Nat} (es : env.scope = sc) (h : swLB sc scope y py pos = true) : swapsWith (.ListComp elt gs scope pos) (some (.Name y py)) ln env = pure true := by
  subst es
  unfold swLB at h
  unfold swapsWith
  show pure _ = _
  rw [show (env.blockKind == .function && env.kindOf y == some .local && py.line == (Expr.ListComp elt gs scope pos).pos.line && !(scope.names.any fun (n, k) => n == y && (k == .local || k == .cell))) = true from h]
end Dl

namespace Dl
open PySem PySem.Spec L2
open PyProof.Rows hiding St
/-! ### `in`, `not in` of data that is compared deep -/
open Classical in
noncomputable def readsEq (h : Heap) (d : PyData) (y : Value) : Bool := decide (∃ e as, Reads h y e as ∧ PyData.eqv e d = true)
open Classical in
theorem readsEq_of {h : Heap} {d e : PyData} {y : Value} {as : List Addr} (r : Reads h y e as) : readsEq h d y = PyData.eqv e d := by
  unfold readsEq
  cases hq : PyData.eqv e d with
  | true => exact decide_eq_true ⟨e, as, r, hq⟩
  | false =>
    refine decide_eq_false ?_
    rintro ⟨e', as', r', h'⟩
    obtain ⟨rfl, _⟩ := PySem.Reads.unique r _ _ r'
    rw [hq] at h'
    cases h'
theorem readsAll_any {h : Heap} {d : PyData} : ∀ {us : List Value} {es : List PyData} {as : List Addr}, ReadsAll h us es as → us.any (readsEq h d) = es.any fun e => PyData.eqv e d
  | _, _, _, .nil => rfl
  | _, _, _, .cons r t => by rw [List.any_cons, List.any_cons, readsEq_of r, readsAll_any t]
theorem readsAll_at {h : Heap} : ∀ {us : List Value} {es : List PyData} {as : List Addr}, ReadsAll h us es as → ∀ u ∈ us, ∃ e ∈ es, ∃ bs, Reads h u e bs
  | _, _, _, .nil, _, hu => by cases hu
  | _, _, _, .cons r t, u, hu => by
    rcases List.mem_cons.mp hu with rfl | hu
    · exact ⟨_, List.mem_cons_self, _, r⟩
    · obtain ⟨e, he, bs, q⟩ := readsAll_at t u hu
      exact ⟨e, List.mem_cons_of_mem _ he, bs, q⟩
theorem canLay_mem : ∀ {es : List PyData}, PyData.canLayAll0 es = true → ∀ e ∈ es, e.canLay0 = true
  | [], _, _, h => by cases h
  | a :: es, hc, e, h => by
    simp only [PyData.canLayAll0, Bool.and_eq_true] at hc
    rcases List.mem_cons.mp h with rfl | h
    · exact hc.1
    · exact canLay_mem hc.2 e h
/-- what `x in ys` tells -/
def inD (d : PyData) (es : List PyData) : Bool := es.any fun e => PyData.eqv e d
def rInD (K : PySem.W.Frag) (neg : Bool) : R2 := fun x y H Q => ∃ d es, L2.Dp K H x d ∧ (L2.Dp K H y (.tuple es) ∨ L2.Dp K H y (.list es)) ∧ SeqAt.shaped d = true ∧ PyData.canLayAll0 es = true ∧ Q (.bl (if neg then !inD d es else inD d es)) H
section
variable {X : Cx}
theorem in_at {A : Around} {s : Shared} {d : PyData} {v : Value} {as bs : List Addr} {us : List Value} {es : List PyData} (hu : A.units + 65 < cLine) (r1 : Reads s.heap v d as) (r2 : ReadsAll s.heap us es bs) (hd : SeqAt.shaped d = true) (he : PyData.canLayAll0 es = true) : ∀ y, y ∈ us → SeqAt.EqAt A.in1 s y v (readsEq s.heap d y) := fun y hy => by
  obtain ⟨e, hm, cs, r⟩ := readsAll_at r2 y hy
  rw [readsEq_of r]
  refine SeqAt.eqAt_reads e d A.in1 s y v _ _ r r1 (canLay_mem he e hm) (SeqAt.canLay_of_shaped hd) ?_
  have h1 := SeqAt.depth_of_shaped hd
  have h2 : min e.depth d.depth ≤ d.depth := Nat.min_le_right _ _
  show A.units + 1 + min e.depth d.depth < cLine
  omega
theorem op_inD (hu : X.A.units + 65 < cLine) : OpR X (compareOp .In) (rInD X.K false) := by
  intro pins s σ H x y v u Q I rx ry h
  obtain ⟨d, es, hd, he, sd, se, q⟩ := h
  obtain ⟨as, r1⟩ := Dp.reads I d x v hd rx
  rcases he with he | he
  · obtain ⟨bs, r2⟩ := Dp.reads I _ y u he ry
    cases r2 with
    | @tuple l o vs n xs as₁ h1 h2 h3 h4 =>
      refine SeqAt.in_tupleAt (readsEq s.heap d) ⟨_, h1, h2, _, h3⟩ (fun w hw => in_at hu r1 h4 sd se w (by simpa using hw)) ⟨.bl _, H, I, rfl, ?_⟩
      rw [← Array.any_toList, readsAll_any h4]
      exact q
  · obtain ⟨bs, r2⟩ := Dp.reads I _ y u he ry
    cases r2 with
    | @list l o vs n xs as₁ h1 h2 h3 h4 =>
      refine SeqAt.in_listAt (readsEq s.heap d) ⟨_, h1, h2, _, h3⟩ (fun w hw => in_at hu r1 h4 sd se w (by simpa using hw)) ⟨.bl _, H, I, rfl, ?_⟩
      rw [← Array.any_toList, readsAll_any h4]
      exact q
theorem op_notInD (hu : X.A.units + 65 < cLine) : OpR X (compareOp .NotIn) (rInD X.K true) := by
  intro pins s σ H x y v u Q I rx ry h
  obtain ⟨d, es, hd, he, sd, se, q⟩ := h
  obtain ⟨as, r1⟩ := Dp.reads I d x v hd rx
  rcases he with he | he
  · obtain ⟨bs, r2⟩ := Dp.reads I _ y u he ry
    cases r2 with
    | @tuple l o vs n xs as₁ h1 h2 h3 h4 =>
      refine SeqAt.notIn_tupleAt (readsEq s.heap d) ⟨_, h1, h2, _, h3⟩ (fun w hw => in_at hu r1 h4 sd se w (by simpa using hw)) ⟨.bl _, H, I, rfl, ?_⟩
      rw [← Array.any_toList, readsAll_any h4]
      exact q
  · obtain ⟨bs, r2⟩ := Dp.reads I _ y u he ry
    cases r2 with
    | @list l o vs n xs as₁ h1 h2 h3 h4 =>
      refine SeqAt.notIn_listAt (readsEq s.heap d) ⟨_, h1, h2, _, h3⟩ (fun w hw => in_at hu r1 h4 sd se w (by simpa using hw)) ⟨.bl _, H, I, rfl, ?_⟩
      rw [← Array.any_toList, readsAll_any h4]
      exact q
variable {z : Z} {Q : Sl → Z → Prop}
theorem canLayT {es : List PyData} (h : SeqAt.shaped (.tuple es) = true) : PyData.canLayAll0 es = true := by
  have := SeqAt.canLay_of_shaped h
  simpa only [PyData.canLay0] using this
theorem canLayL {es : List PyData} (h : SeqAt.shaped (.list es) = true) : PyData.canLayAll0 es = true := by
  have := SeqAt.canLay_of_shaped h
  simpa only [PyData.canLay0] using this
theorem rd_inT {d : PyData} {es : List PyData} (hu : X.A.units + 65 < cLine) (hd : SeqAt.shaped d = true) (he : SeqAt.shaped (.tuple es) = true) (h : Q (.sh (.bool (inD d es))) z) : RD X (compareOp .In) (.sh d) (.sh (.tuple es)) z Q := fun c w σ v u k b r1 r2 hk =>
  rB_of (op_inD hu) ⟨d, es, r1.dp b hd, .inl (r2.dp b he), hd, canLayT he, hk _ _ w z b (.refl w) (vB _) h⟩
theorem rd_notInT {d : PyData} {es : List PyData} (hu : X.A.units + 65 < cLine) (hd : SeqAt.shaped d = true) (he : SeqAt.shaped (.tuple es) = true) (h : Q (.sh (.bool (!inD d es))) z) : RD X (compareOp .NotIn) (.sh d) (.sh (.tuple es)) z Q := fun c w σ v u k b r1 r2 hk =>
  rB_of (op_notInD hu) ⟨d, es, r1.dp b hd, .inl (r2.dp b he), hd, canLayT he, hk _ _ w z b (.refl w) (vB _) h⟩
theorem rd_inL {d : PyData} {es : List PyData} (hu : X.A.units + 65 < cLine) (hd : SeqAt.shaped d = true) (he : SeqAt.shaped (.list es) = true) (h : Q (.sh (.bool (inD d es))) z) : RD X (compareOp .In) (.sh d) (.sh (.list es)) z Q := fun c w σ v u k b r1 r2 hk =>
  rB_of (op_inD hu) ⟨d, es, r1.dp b hd, .inr (r2.dp b he), hd, canLayL he, hk _ _ w z b (.refl w) (vB _) h⟩
theorem rd_notInL {d : PyData} {es : List PyData} (hu : X.A.units + 65 < cLine) (hd : SeqAt.shaped d = true) (he : SeqAt.shaped (.list es) = true) (h : Q (.sh (.bool (!inD d es))) z) : RD X (compareOp .NotIn) (.sh d) (.sh (.list es)) z Q := fun c w σ v u k b r1 r2 hk =>
  rB_of (op_notInD hu) ⟨d, es, r1.dp b hd, .inr (r2.dp b he), hd, canLayL he, hk _ _ w z b (.refl w) (vB _) h⟩
theorem rd_inO {d : PyData} {es : List PyData} {i : Nat} {xs : List Sl} (hu : X.A.units + 65 < cLine) (ho : z.ob[i]? = some (.lst xs)) (hx : allSh xs = some es) (hd : SeqAt.shaped d = true) (he : SeqAt.shaped (.list es) = true) (h : Q (.sh (.bool (inD d es))) z) : RD X (compareOp .In) (.sh d) (.ob i) z Q := fun c w σ v u k b r1 r2 hk =>
  rB_of (op_inD hu) ⟨d, es, r1.dp b hd, .inr (ob_dp b ho hx r2 he), hd, canLayL he, hk _ _ w z b (.refl w) (vB _) h⟩
theorem rd_notInO {d : PyData} {es : List PyData} {i : Nat} {xs : List Sl} (hu : X.A.units + 65 < cLine) (ho : z.ob[i]? = some (.lst xs)) (hx : allSh xs = some es) (hd : SeqAt.shaped d = true) (he : SeqAt.shaped (.list es) = true) (h : Q (.sh (.bool (!inD d es))) z) : RD X (compareOp .NotIn) (.sh d) (.ob i) z Q := fun c w σ v u k b r1 r2 hk =>
  rB_of (op_notInD hu) ⟨d, es, r1.dp b hd, .inr (ob_dp b ho hx r2 he), hd, canLayL he, hk _ _ w z b (.refl w) (vB _) h⟩
end
end Dl

namespace Dl
open PySem PySem.Spec L2
open PyProof.Rows hiding St
/-! ### a list of the store comes to stay -/
def frzS (i : Nat) (d : PyData) : Sl → Sl
  | .ob j => if j = i then .sh d else .ob j
  | x => x
theorem B.frz {K : PySem.W.Frag} {c : Ct} {w : Wd} {σ : St} {z : Z} (b : B K c w σ z) {i : Nat} {xs : List Sl} {ds : List PyData} (ho : z.ob[i]? = some (.lst xs)) (hx : allSh xs = some ds) :
    ∃ S', w.Le ⟨w.rho, S', w.H⟩ ∧ B K c ⟨w.rho, S', w.H⟩ σ ⟨z.sl.map (frzS i (.list ds)), z.ob.set i .gone⟩ := by
  have hlt : i < w.rho.length := by
    rw [b.len]
    exact (List.getElem?_eq_some_iff.mp ho).1
  obtain ⟨p, hp⟩ : ∃ p, w.rho[i]? = some p := ⟨_, List.getElem?_eq_getElem hlt⟩
  obtain ⟨hS, vs, hH, hv⟩ := b.ob i _ p ho hp
  have l : w.Le ⟨w.rho, upd w.S p (.lst vs), w.H⟩ := ⟨fun a u e => by
    show upd w.S p _ a = some u
    rw [upd_ne (ne_of_none e hS)]
    exact e, fun _ _ h => h⟩
  have r2 : Vl K ⟨w.rho, upd w.S p (.lst vs), w.H⟩ (.ref p) (.sh (.list ds)) := Dq.lst (.inl upd_same) (DpAll_mono l.st (allSh_dp hx hv))
  refine ⟨upd w.S p (.lst vs), l, fun a u e => ?_, ?_, b.nd, b.tr, paired_map (fun o x q => ?_) b.sl, fun j x q h1 h2 => ?_, b.pre, b.fr, fun a u e => ?_, b.st.trans l.st, b.nr⟩
  · have e : upd w.S p _ a = some u := e
    show w.H a = some u
    by_cases ha : a = p
    · subst ha
      rw [upd_same] at e
      rw [hH, e]
    · rw [upd_ne ha] at e
      exact b.same a u e
  · show w.rho.length = (z.ob.set i _).length
    rw [List.length_set]
    exact b.len
  · rcases q with rfl | ⟨v, e, h⟩
    · exact .inl rfl
    · refine .inr ⟨v, e, ?_⟩
      cases x with
      | no => exact h
      | sh d => exact h.mono l
      | tp d => exact h.mono l
      | ob j =>
        show Vl K _ v (if j = i then .sh _ else .ob j)
        by_cases hj : j = i
        · rw [if_pos hj]
          obtain ⟨p', hp', rfl⟩ := h
          rw [hj, hp] at hp'
          cases hp'
          exact r2
        · rw [if_neg hj]
          exact h.mono l
  · have h1 : (z.ob.set i .gone)[j]? = some x := h1
    have h2 : w.rho[j]? = some q := h2
    by_cases hj : i = j
    · subst hj
      rw [List.getElem?_set_self (List.getElem?_eq_some_iff.mp ho).1] at h1
      cases h1
      trivial
    · rw [List.getElem?_set_ne hj] at h1
      have hq : q ≠ p := fun e => hj (nodup_ixA b.nd hp (e ▸ h2))
      exact (b.ob j x q h1 h2).mono l (fun e => by
        show upd w.S p _ q = none
        rw [upd_ne hq]
        exact e) rfl
  · have e : upd w.S p _ a = some u := e
    by_cases ha : a = p
    · subst ha
      exact .inr (b.inOr (List.mem_of_getElem? hp))
    · rw [upd_ne ha] at e
      exact b.nw a u e
section
variable {X : Cx} {z : Z}
theorem ws_frz (i : Nat) {ss : List Stmt} {Q : Out → Prop} {xs : List Sl} {ds : List PyData} (ho : z.ob[i]? = some (.lst xs)) (hx : allSh xs = some ds) (h : WS X ss ⟨z.sl.map (frzS i (.list ds)), z.ob.set i .gone⟩ Q) : WS X ss z Q := fun c w σ D b hk => by
  obtain ⟨S', l, b'⟩ := b.frz ho hx
  exact h c ⟨w.rho, S', w.H⟩ σ D b' (hk.le l)
theorem w1_frz (i : Nat) {ss : Stmt} {Q : Out → Prop} {xs : List Sl} {ds : List PyData} (ho : z.ob[i]? = some (.lst xs)) (hx : allSh xs = some ds) (h : W1 X ss ⟨z.sl.map (frzS i (.list ds)), z.ob.set i .gone⟩ Q) : W1 X ss z Q := fun c w σ D b hk => by
  obtain ⟨S', l, b'⟩ := b.frz ho hx
  exact h c ⟨w.rho, S', w.H⟩ σ D b' (hk.le l)
theorem we_frz (i : Nat) {e : Expr} {Q : Sl → Z → Prop} {xs : List Sl} {ds : List PyData} (ho : z.ob[i]? = some (.lst xs)) (hx : allSh xs = some ds) (h : WE X e ⟨z.sl.map (frzS i (.list ds)), z.ob.set i .gone⟩ Q) : WE X e z Q := fun c w σ D b hk => by
  obtain ⟨S', l, b'⟩ := b.frz ho hx
  exact h c ⟨w.rho, S', w.H⟩ σ D b' (hk.le l)
end
/-! ### x = [.. for ..] that is changed behind -/
section
variable {X : Cx} {tg iter elt : Expr} {ifs : List Expr} {scope : Scope} {z : Z} {pos spos py : Pos} {own : List (Str × Nat)} {g : TG} {Q : Sl → Z → Prop}
theorem w1_setLcO {P : Out → Prop} {i : Nat} {y : Str} (hN : X.N.Nodup) (hy : X.N[i]? = some y) (ok : BlkOk X.N X.env.scope scope own) (hg : ∀ s H C cl fp, PG (Blk X scope s H C cl fp) tg g)
    (h : WI X tg iter z (LcD X tg elt ifs scope (own.map (·.2)) g fun acc z1 => P (.nx ⟨z1.sl.set i (.ob z1.ob.length), z1.ob ++ [.lst acc]⟩)))
    (hsw : swapsWith (.ListComp elt [⟨tg, iter, ifs, 0⟩] scope pos) (some (.Name y py)) spos.line X.env = pure true) (hyl : X.env.scope.names.lookup y = some .local := by rfl) (hc : X.calm = true := by rfl) (hs : ∀ x, foldedSetIterable iter X.env x = pure x := by intro _; rfl) :
    W1 X (.Assign [.Name y py] (.ListComp elt [⟨tg, iter, ifs, 0⟩] scope pos) spos) z P := fun c w σ D bb hk =>
  tS_of (ps_setLc hc hN hy hyl hsw piB ok hg (fun s H C cl fp => ⟨fun pins s1 σ H1 Q I h => ptsB.run pins s1 σ H1 Q I (h s H C cl fp)⟩) (fun s H C cl fp => ⟨fun pins s1 σ H1 Q I h => h s H C cl fp pins s1 I⟩) hs)
    (lc_ok bb h fun A vs acc w1 z1 b1 l1 as hD hp hq => by
      have b2 := b1.push as hD hp
      have r2 : Vl X.K ⟨w1.rho ++ [A], w1.S, w1.H⟩ (.ref A) (.ob z1.ob.length) := ⟨A, by
        show (w1.rho ++ [A])[z1.ob.length]? = some A
        rw [← b1.len, List.getElem?_append_right (Nat.le_refl _), Nat.sub_self]
        rfl, rfl⟩
      exact hk.nx ⟨w1.rho ++ [A], w1.S, w1.H⟩ _ _ (b2.setSl (i := i) r2) (l1.trans le_push) hq)
end
/-! ### comprehensions that change the store, whatever becomes of the list -/
section
variable {X : Cx} {tg elt t : Expr} {scope : Scope} {vs : List Nat} {g : TG} {ys : List Sl} {G : Z → Prop} {z1 : Z} {Kq : List Sl → Z → Prop}
theorem lcd_stG (I : Nat → List PyData → List OO → Prop) (hlen : ys.length ≤ 100000) (h0 : I 0 [] z1.ob) (hG : ∀ i acc om, I i acc om → G ⟨wipeZ z1.sl vs, om⟩)
    (h : ∀ (i : Nat) (y : Sl) (acc : List PyData) (om : List OO), ys[i]? = some y → I i acc om → acc.length = i → GD X.K vs g y ⟨wipeZ z1.sl vs, om⟩ fun z2 => ∀ s H C cl fp, WE (Blk X scope s H C cl fp) elt z2 fun x z4 => ∃ d, x = .sh d ∧ I (i + 1) (acc ++ [d]) z4.ob)
    (hQ : ∀ acc om, I ys.length acc om → acc.length = ys.length → Kq (acc.map .sh) ⟨z1.sl, om⟩) : LcD X tg elt [] scope vs g Kq ys G z1 := by
  refine ⟨hlen, fun i acc om => ∃ ds : List PyData, acc = ds.map .sh ∧ ds.length = i ∧ I i ds om, ⟨[], rfl, rfl, h0⟩, ?_, ?_, ?_⟩
  · rintro i acc om ⟨ds, rfl, _, hI⟩
    exact hG i ds om hI
  · rintro i y acc om hy ⟨ds, rfl, hl, hI⟩ _
    intro c w σ v k bb r hk
    refine h i y ds om hy hI hl c w σ v k bb r fun w' σ' z' b' l hw hq => hk w' σ' z' b' l hw fun s H C cl fp => ?_
    refine ⟨fun _ s2 H2 C2 cl2 fp2 => (hq s2 H2 C2 cl2 fp2).mono fun x z4 ⟨d, e1, e2⟩ => ⟨ds ++ [d], by rw [e1, List.map_append]; rfl, by simp [hl], e2⟩, fun h => by cases h⟩
  · rintro acc om ⟨ds, rfl, hl, hI⟩ _
    exact hQ ds om hI hl
theorem lcd_stIG (I : Nat → List PyData → List OO → Prop) (hlen : ys.length ≤ 100000) (h0 : I 0 [] z1.ob) (hG : ∀ i acc om, I i acc om → G ⟨wipeZ z1.sl vs, om⟩)
    (h : ∀ (i : Nat) (y : Sl) (acc : List PyData) (om : List OO), ys[i]? = some y → I i acc om → acc.length ≤ i → GD X.K vs g y ⟨wipeZ z1.sl vs, om⟩ fun z2 => ∀ s H C cl fp, WT (Blk X scope s H C cl fp) t z2 fun b z3 =>
      (b = true → ∀ s H C cl fp, WE (Blk X scope s H C cl fp) elt z3 fun x z4 => ∃ d, x = .sh d ∧ I (i + 1) (acc ++ [d]) z4.ob) ∧ (b = false → I (i + 1) acc z3.ob))
    (hQ : ∀ acc om, I ys.length acc om → acc.length ≤ ys.length → Kq (acc.map .sh) ⟨z1.sl, om⟩) : LcD X tg elt [t] scope vs g Kq ys G z1 := by
  refine ⟨hlen, fun i acc om => ∃ ds : List PyData, acc = ds.map .sh ∧ ds.length ≤ i ∧ I i ds om, ⟨[], rfl, Nat.le_refl _, h0⟩, ?_, ?_, ?_⟩
  · rintro i acc om ⟨ds, rfl, _, hI⟩
    exact hG i ds om hI
  · rintro i y acc om hy ⟨ds, rfl, hl, hI⟩ _
    intro c w σ v k bb r hk
    refine h i y ds om hy hI hl c w σ v k bb r fun w' σ' z' b' l hw hq => hk w' σ' z' b' l hw fun s H C cl fp => ?_
    refine (hq s H C cl fp).mono fun b z3 ⟨ht, hf⟩ => ⟨fun h1 s2 H2 C2 cl2 fp2 => (ht h1 s2 H2 C2 cl2 fp2).mono fun x z4 ⟨d, e1, e2⟩ => ⟨ds ++ [d], by rw [e1, List.map_append]; rfl, by simp; omega, e2⟩, fun h1 => ⟨ds, rfl, by omega, hf h1⟩⟩
  · rintro acc om ⟨ds, rfl, hl, hI⟩ _
    exact hQ ds om hI hl
end
/-! ### list.insert; a tuple some times -/
section
variable {X : Cx} {z : Z} {Q : Sl → Z → Prop}
theorem mo_insert {i : Nat} {xs : List Sl} {y : Sl} {n : Nat} (ho : z.ob[i]? = some (.lst xs)) (hl : xs.length < 100000) (hn : n ≤ 100000) (h : Q (.sh .none) ⟨z.sl, z.ob.set i (.lst (xs.take n ++ [y] ++ xs.drop n))⟩) : MO X "list.insert" i [.sh (.int n), y] z Q := fun c w σ p vs k b hp rr hk => by
  obtain ⟨_, us, hH, hv⟩ := b.ob i _ p ho hp
  cases rr with
  | cons q t =>
    cases t with
    | cons q2 t2 =>
      cases t2
      cases Dp_int q
      have hd : Paired (Vl X.K w) (us.take n ++ [_] ++ us.drop n) (xs.take n ++ [y] ++ xs.drop n) := paired_app (paired_app (paired_take n hv) (.cons q2 .nil)) (paired_drop n hv)
      refine mB_of mt_insert ⟨p, us, n, _, rfl, rfl, hH, ?_, by omega, by omega, ?_⟩
      · rw [hv.length]
        exact Nat.lt_of_lt_of_le hl (by decide)
      · exact hk _ _ _ _ (b.setO ho hp hd) le_set vN h
end
end Dl

set_option maxHeartbeats 4000000
namespace Dl
open PySem PySem.Spec L2
open PyProof.Rows hiding St
/-! ### a tuple once, or some times -/
theorem tuple_mul1 (l : Addr) (items : Array Value) (n : Nat) (dd : Option Addr) (sl : Array (Option Value)) (u : Tok) :
    Meets (Builtin.«tuple.__mul__» ⟨[.ref l, .int 1 u], []⟩) (fun _ R s => s.heap.get? l = some { cls := .type "tuple", dict := dd, data := .seq items n, slots := sl } ∧ R (.ok (.ret (Value.ref l))) s) :=
  .of_wp fun prog w A R s h => by
    obtain ⟨hp, g, d, tk, os⟩ := s
    obtain ⟨hl, h⟩ := h
    have f1 := AutoSeq1.idx_int
    wp_walk using wpAny_loadPart' hl
    exact ⟨_, rfl, h⟩
def rRep1 (K : PySem.W.Frag) : R2 := fun x y H Q => ∃ l xs, x = .ref l ∧ y = .int 1 ∧ SqT K H l xs ∧ Q (.ref l) H
section
variable {X : Cx} {z : Z} {Q : Sl → Z → Prop}
theorem op_rep1 : OpR X (binaryOp .Mult) (rRep1 X.K) := by
  intro pins s σ H x y v u Q I rx ry h
  obtain ⟨l, xs, rfl, rfl, hT, q⟩ := h
  cases rx
  obtain ⟨t, rfl⟩ := ry
  obtain ⟨its, r, ⟨⟨cls, dd, data, sl⟩, ho, hc, n, hd⟩, hs⟩ := I.tuple hT
  simp only at hc hd
  subst hc hd
  exact wpAny_binaryOp_repeat_ref (T := "tuple") (U := "int") (by decide) ⟨_, ho, rfl⟩ (fun s' => typeIs_int s' 1 t) noFill_tuple_mul F.fills_int_mul F.slot_int_rmul repeat_tuple F.slot_int_index.lookup
    (call_meets F.slot_int_rmul (typeIs_int s 1 t) F.entry_int_rmul (F.args_int_rmul_2 _ _) (int_rmul_tuple 1 t l its.toArray n dd sl)
      ⟨ho, rfl, ⟨_, ho, rfl⟩, call_meets F.slot_tuple_mul ⟨_, ho, rfl⟩ F.entry_tuple_mul (F.args_tuple_mul_2 _ _) (tuple_mul1 l its.toArray n dd sl t) ⟨ho, .ref l, H, I, rfl, q⟩⟩)
def rRepP (K : PySem.W.Frag) : R2 := fun x y H Q => ∃ l k xs, x = .ref l ∧ y = .int k ∧ SqT K H l xs ∧ xs ≠ [] ∧ 2 ≤ k ∧ k ≤ 1000 ∧ xs.length ≤ 1000 ∧ ∀ p o, H p = none → o.dict = none → Q (.ref p) (upd H p (.frz o (.tup (List.replicate k.toNat xs).flatten)))
theorem op_repP : OpR X (binaryOp .Mult) (rRepP X.K) := by
  intro pins s σ H x y v u Q I rx ry h
  obtain ⟨l, k, xs, rfl, rfl, hT, hx, h2, hk, hl, q⟩ := h
  cases rx
  obtain ⟨t, rfl⟩ := ry
  obtain ⟨its, r, ⟨⟨cls, dd, data, sl⟩, ho, hc, n, hd⟩, hs⟩ := I.tuple hT
  simp only at hc hd
  subst hc hd
  have el : xs.length = its.length := r.length
  have ne : its.toArray.isEmpty = false := by
    cases its with
    | nil => exact absurd (List.eq_nil_of_length_eq_zero el) hx
    | cons a b => rfl
  have hm : ((its.toArray.size : Nat) : Int) * k ≤ 1000000 := by
    have a0 : its.toArray.size ≤ 1000 := by rw [List.size_toArray]; omega
    have a1 : ((its.toArray.size : Nat) : Int) * k ≤ 1000 * k := Int.mul_le_mul_of_nonneg_right (by omega) (by omega)
    omega
  have a2 : k.toNat * its.length ≤ 1000 * 1000 := Nat.mul_le_mul (by omega) (by omega)
  have hz : (List.replicate k.toNat its).flatten.length ≤ sizeLine := by
    rw [PyProof.Rows.lm_len_rep_flat, sizeLine_eq]
    omega
  have k0 : (decide (k < -(2 ^ 63)) || decide (k ≥ 2 ^ 63)) = false := by
    simp only [Bool.or_eq_false_iff, decide_eq_false_iff_not]
    omega
  have k1 : (its.toArray.isEmpty || k == 1) = false := by
    simp only [ne, Bool.false_or, beq_eq_false_iff_ne]
    omega
  have k2 : (decide (k ≤ 0) || its.toArray.isEmpty) = false := by
    simp only [ne, Bool.or_false, decide_eq_false_iff_not]
    omega
  have k4 : Builtin.Tuple.tupleTooMany (((its.toArray.size : Nat) : Int) * k) = false := by
    simp only [Builtin.Tuple.tupleTooMany, sizeLine_eq, decide_eq_false_iff_not]
    omega
  have W := tuple_mulW l its.toArray n dd sl k t k0 k1 k2 (by omega) k4 (by rw [size_rep, List.size_toArray]; exact hz)
  have L := laidP I (r.rep k.toNat) (by rw [(r.rep k.toNat).length]; exact hz)
  rw [size_rep] at W
  exact wpAny_binaryOp_repeat_ref (T := "tuple") (U := "int") (by decide) ⟨_, ho, rfl⟩ (fun s' => typeIs_int s' k t) noFill_tuple_mul F.fills_int_mul F.slot_int_rmul repeat_tuple F.slot_int_index.lookup
    (call_meets F.slot_int_rmul (typeIs_int s k t) F.entry_int_rmul (F.args_int_rmul_2 _ _) (int_rmul_tuple k t l its.toArray n dd sl) ⟨ho, rfl, ⟨_, ho, rfl⟩, call_meets F.slot_tuple_mul ⟨_, ho, rfl⟩ F.entry_tuple_mul (F.args_tuple_mul_2 _ _) W ⟨ho, .ref s.heap.objs.size, _, L, rfl, q _ _ (I.hok.fresh (Nat.le_refl _)) rfl⟩⟩)
theorem rd_repT {ds : List PyData} {k : Int} (h0 : 1 ≤ k) (h1 : k ≤ 1000) (hn : ds ≠ []) (hc : ds.length ≤ 1000) (h : Q (.sh (.tuple (List.replicate k.toNat ds).flatten)) z) : RD X (binaryOp .Mult) (.sh (.tuple ds)) (.sh (.int k)) z Q := fun c w σ v u kk b r1 r2 hk => by
  obtain ⟨p, xs, rfl, h3, s1⟩ := Dp_tupI r1
  cases Dp_int r2
  by_cases e : k = 1
  · subst e
    refine rB_of op_rep1 ⟨p, xs, rfl, rfl, Same.tup b.same h3, ?_⟩
    have e2 : (List.replicate (1 : Int).toNat ds).flatten = ds := by
      show (List.replicate 1 ds).flatten = ds
      simp
    rw [e2] at h
    exact hk _ _ w z b (.refl w) r1 h
  · have hl := DpAll_len s1
    refine rB_of op_repP ⟨p, k, xs, rfl, rfl, Same.tup b.same h3, fun e => ?_, by omega, h1, by omega, new_tup b (DqAll_rep s1 _) hk h⟩
    subst e
    exact hn (List.eq_nil_of_length_eq_zero hl.symm)
end
end Dl

namespace Dl
open PySem PySem.Spec L2
open PyProof.Rows hiding St
/-! ### a, b, .. = x, y, .. by a tuple, of anything -/
def setSlS (sl : List Sl) : List Nat → List Sl → List Sl
  | i :: is, x :: xs => setSlS (sl.set i x) is xs
  | _, _ => sl
theorem gds_any {K : PySem.W.Frag} {c : Ct} {w : Wd} {k : St → Hp → Prop} : ∀ {is : List Nat} {us : List V} {xs : List Sl} {σ : St} {z : Z}, xs.length = is.length → Paired (Vl K w) us xs → B K c w σ z → (∀ σ', B K c w σ' ⟨setSlS z.sl is xs, z.ob⟩ → k σ' w.H) → gNames is us σ w.H k
  | [], _, _, σ, z, hl, .nil, b, h => ⟨rfl, h σ b⟩
  | i :: is, _, _, σ, z, hl, .cons q t, b, h => ⟨_, _, rfl, gds_any (z := ⟨z.sl.set i _, z.ob⟩) (by simpa using hl) t (b.setSl q) h⟩
  | [], _, _, _, _, hl, .cons _ _, _, _ => by cases hl
  | _ :: _, _, _, _, _, hl, .nil, _, _ => by cases hl
theorem w1_asgA {X : Cx} {z : Z} {Q : Out → Prop} {tg : Expr} {es : List Expr} {is : List Nat} {n x1 : Nat} {pos pos2 : Pos} (hg : PG X tg (gTup X.K n (gNames is))) (hn : is.length = n) (h : WA X es z fun xs z1 => xs.length = n ∧ n ≤ 100000 ∧ Q (.nx ⟨setSlS z1.sl is xs, z1.ob⟩))
    (hs : swapsWithSole [tg] (.Tuple es x1 pos2) pos.line X.env = pure false := by rfl) (hw : swappedStores [tg] (.Tuple es x1 pos2) X.env = pure none := by rfl) (h1 : (assignEach [tg] X.env).map (·.2) = [assign tg X.env] := by rfl) : W1 X (.Assign [tg] (.Tuple es x1 pos2) pos) z Q := fun c w σ D bb hk =>
  tS_of (ps_asg (pe_tupP paB) hg hs hw h1) (h c w σ _ bb fun vs xs w1 z1 b1 l1 rr ⟨hx, hle, hq⟩ => ⟨by
    rw [rr.length, hx]
    exact Nat.le_trans hle (by decide), fun p o hp ho => by
    have b2 : B X.K c ⟨w1.rho, w1.S, upd w1.H p (.frz o (.tup vs))⟩ σ z1 := b1.aside (b1.asideNew hp)
    have l2 : w1.Le ⟨w1.rho, w1.S, upd w1.H p (.frz o (.tup vs))⟩ := le_set
    refine ⟨p, vs, rfl, .inl (.inr ⟨o, upd_same⟩), by rw [rr.length, hx], gds_any (by rw [hx, hn]) (rr.mono fun _ _ q => q.mono l2) b2 fun σ' b3 => ?_⟩
    exact hk.nx _ σ' _ b3 (l1.trans l2) hq⟩)
end Dl

namespace Dl
open PySem PySem.Spec L2
open PyProof.Rows hiding St
section
variable {X : Cx} {z : Z} {Q : Sl → Z → Prop}
/-! ### sorted of a dict that stays -/
theorem cd_sortedF (hc : X.calm = true) {es : List (Key × PyData)} {ns : List Int} (hk : es.map (·.1) = ns.map Sum.inl) (hd : ns.Nodup) (h64 : ns.length < 64) (h : Q (.sh (.list ((usort ns).map .int))) z) : CD X (.builtin "sorted") [.sh (dicD es)] z Q := fun c w σ vs k b rr hkk => by
  obtain ⟨v, rfl, r⟩ := p1 rr
  obtain ⟨a, kvs, rfl, hH, hp⟩ := Dq_dic r
  refine cB_of (call_sortedDI hc) ⟨a, kvs, ns, rfl, .inl (b.same _ _ hH), by rw [hp.fst, hk], h64, fun ys p hperm hsort hp0 => ?_⟩
  have e : ys = usort ns := by
    refine usort_eq ?_ fun k => hperm.mem_iff
    have hnd : ys.Nodup := hperm.nodup_iff.mpr hd
    exact (List.Pairwise.and hsort hnd).imp fun q => by omega
  rw [e]
  exact newInts b hkk h p hp0
end
end Dl

namespace Dl
open PySem PySem.Spec L2
open PyProof.Rows hiding St
/-! ### a display of a dict: texts to ints -/
section
variable {X : Cx} {z : Z} {Q : Sl → Z → Prop} {pos : Pos}
def kiD (l : List (Str × Int)) : List (Key × PyData) := l.map fun q => (.inr q.1, .int q.2)
def kiV (l : List (Str × Int)) : List (Key × V) := l.map fun q => (.inr q.1, .int q.2)
theorem ki_pkv {K : PySem.W.Frag} {H : Hp} : ∀ l : List (Str × Int), PKV (Dq K H) (kiV l) (kiD l)
  | [] => .nil
  | q :: l => .cons ⟨rfl, .int q.2⟩ (ki_pkv l)
theorem disp_ok {K : PySem.W.Frag} {c : Ct} {w : Wd} {σ : St} {k : VK} {l : List (Str × Int)} (bb : B K c w σ z) (hk : Cont K c w σ Q k) (h : Q (.sh (dicD (mergeG [] (kiD l)))) z) {p : Addr} (hp : w.H p = none) : k (.ref p) (upd (upd w.H p (.dK [])) p (.dK (mergeK [] (kiV l)))) := by
  have hv : PKV (Dq K w.S) (mergeK [] (kiV l)) (mergeG [] (kiD l)) := PKV.merge (ki_pkv l) .nil
  have e : upd (upd w.H p (.dK [])) p (.dK (mergeK [] (kiV l))) = upd w.H p (.dK (mergeK [] (kiV l))) := by
    funext a
    by_cases ha : a = p
    · subst ha
      rw [upd_same, upd_same]
    · rw [upd_ne ha, upd_ne ha, upd_ne ha]
  rw [e]
  exact new_dicF bb hv hk h p hp
/-- keys and values as they are written -/
inductive KE : List (Option Expr) → List Expr → List (Str × Int) → Prop
  | nil : KE [] [] []
  | cons {k : Str} {v : Int} {c d a b ks vs l} : KE ks vs l → KE (some (.Constant (.str k) c a) :: ks) (.Constant (.int v) d b :: vs) ((k, v) :: l)
theorem KE.len {ks : List (Option Expr)} {vs : List Expr} {l : List (Str × Int)} (h : KE ks vs l) : ks.length = l.length ∧ vs.length = l.length ∧ ks.all (·.isSome) = true := by
  induction h with
  | nil => exact ⟨rfl, rfl, rfl⟩
  | cons _ ih => exact ⟨by simp [ih.1], by simp [ih.2.1], by simp [ih.2.2]⟩
theorem KE.pps {ks : List (Option Expr)} {vs : List Expr} {l : List (Str × Int)} (h : KE ks vs l) : ∃ trs, PPs X pos ks vs trs ∧ ∀ σ H (P : List (V × V) → Hp → Prop), P (l.map fun q => (V.str q.1, V.int q.2)) H → tPairs trs σ H P := by
  induction h with
  | nil => exact ⟨[], pps_nil, fun _ _ _ h => h⟩
  | cons _ ih =>
    obtain ⟨trs, h1, h2⟩ := ih
    exact ⟨_, pps_cons pe_str pe_int h1, fun σ H P h => h2 σ H _ h⟩
theorem we_dict {ks : List (Option Expr)} {vs : List Expr} (l : List (Str × Int)) (hl : KE ks vs l) (h0 : l ≠ []) (h15 : l.length ≤ 15) (h : Q (.sh (dicD (mergeG [] (kiD l)))) z) : WE X (.Dict ks vs pos) z Q := fun c w σ kk bb hk => by
  obtain ⟨trs, h1, h2⟩ := hl.pps (X := X) (pos := pos)
  obtain ⟨e1, e2, e3⟩ := hl.len
  refine tE_of (pe_disp h1 e3 (e1.trans e2.symm) (fun e => h0 (List.eq_nil_of_length_eq_zero (by rw [← e1, e]; rfl))) (by rw [e1]; exact h15)) (fun p hp => ?_)
  refine h2 σ _ _ ⟨upd_same, kiV l, ?_, by unfold kiV; rw [List.length_map]; exact h15, disp_ok bb hk h hp⟩
  unfold kiV
  rw [List.map_map]
  rfl
/-! ### s.upper(), xs.pop(i) -/
theorem we_upper {o : Expr} {apos : Pos} (h : WE X o z fun x z1 => ∃ a : Str, x = .sh (.str a) ∧ a.length ≤ 5592405 ∧ Q (.sh (.str (Txt.upper a))) z1)
    (hbase : attributeBase o "upper" X.env (eval o X.env) = eval o X.env := by rfl) (hline : (apos.endLine == pos.line) = true := by rfl) : WE X (.Call (.Attribute o "upper" apos) [] [] pos) z Q := fun c w σ k bb hk =>
  tE_of (pe_upper peB hbase hline) (h c w σ _ bb fun v x w1 z1 b1 l1 r1 ⟨a, ex, hl, hq⟩ => by
    subst ex
    cases Dp_str r1
    exact ⟨⟨a, rfl⟩, a, rfl, rfl, hl, hk _ _ w1 z1 b1 l1 (vS _) hq⟩)
theorem paired_erase {α β : Type} {F : α → β → Prop} : ∀ {l : List α} {m : List β} (n : Nat), Paired F l m → Paired F (l.eraseIdx n) (m.eraseIdx n)
  | _, _, _, .nil => .nil
  | _, _, 0, .cons _ t => t
  | _, _, n + 1, .cons q t => .cons q (paired_erase n t)
theorem mo_popAt {i : Nat} {xs : List Sl} {y : Sl} {n : Nat} (ho : z.ob[i]? = some (.lst xs)) (hl : xs.length < 100000) (hn : xs[n]? = some y) (h : Q y ⟨z.sl, z.ob.set i (.lst (xs.eraseIdx n))⟩) : MO X "list.pop" i [.sh (.int n)] z Q := fun c w σ p vs k b hp rr hk => by
  obtain ⟨_, us, hH, hv⟩ := b.ob i _ p ho hp
  cases rr with
  | cons q t =>
    cases t
    cases Dp_int q
    obtain ⟨v, e1, qv⟩ := paired_get hv hn
    have hlt := (List.getElem?_eq_some_iff.mp hn).1
    have hul := hv.length
    refine mB_of mt_popAt ⟨p, us, n, n, v, rfl, rfl, hH, by omega, by omega, ?_, e1, hk _ _ _ _ (b.setO ho hp (paired_erase n hv)) le_set (qv.mono le_set) h⟩
    unfold seqIndex?
    simp
    omega
theorem wt_lendS {e : Expr} {P : Bool → Z → Prop} (f : List Sl) (hf : z.sl.map (viewSl z.ob) = f) (h : WT X e ⟨f, []⟩ fun b _ => P b z) : WT X e z P := wt_lend (by rw [hf]; exact h)
theorem view_lst {st : List OO} {n : Nat} {ds : List PyData} (h : st[n]? = some (.lst (ds.map .sh))) : viewSl st (.ob n) = .sh (.list ds) := by simp only [viewSl, h, allSh_map]
/-- list(t) as a new list of the store -/
theorem cd_listTO {ds : List PyData} (h : Q (.ob z.ob.length) ⟨z.sl, z.ob ++ [.lst (ds.map .sh)]⟩) : CD X (.type "list") [.sh (.tuple ds)] z Q := fun c w σ vs k b rr hk => by
  obtain ⟨v, rfl, r⟩ := p1 rr
  obtain ⟨p, xs, rfl, h1, s1⟩ := Dp_tupI r
  exact cB_of call_list_of ⟨p, xs, rfl, .inr (Same.tup b.same h1), new_lst b (dp_allSh s1) hk h⟩
theorem wt_chain {a b e : Expr} {op op' : CmpOp} {P : Bool → Z → Prop} (h : WE X a z fun x z1 => WE X b z1 fun y z2 => RD X (compareOp op) x y z2 fun t z3 => ∃ c, t = .sh (.bool c) ∧ (c = true → WE X e z3 fun u z4 => RD X (compareOp op') y u z4 (Tru P)) ∧ (c = false → P false z3))
    (hm : lastMarks [op, op'] [b, e] = false := by with_unfolding_all rfl) : WT X (.Compare a [op, op'] [b, e] pos) z P := fun c w σ k bb hk =>
  tT_of (pt_chain rB_op rB_op peB peB peB hm) (h c w σ _ bb fun v x w1 z1 b1 l1 r1 h1 => h1 c w1 σ _ b1 fun u y w2 z2 b2 l2 r2 h2 =>
    h2 c w2 σ v u _ b2 (r1.mono l2) r2 fun t s w3 z3 b3 l3 r3 ⟨d, e1, h4, h5⟩ => by
      subst e1
      have l13 := (l1.trans l2).trans l3
      cases Dp_bl r3
      refine ⟨d, rfl, ?_⟩
      cases d with
      | true =>
        rw [if_pos rfl]
        exact h4 rfl c w3 σ _ b3 fun u2 y2 w4 z4 b4 l4 r4 h6 => h6 c w4 σ u u2 _ b4 (r2.mono (l3.trans l4)) r4 fun v5 x5 w5 z5 b5 l5 r5 ⟨c5, e5, hp⟩ => ⟨c5, Dp_bl (e5 ▸ r5), hk c5 w5 z5 b5 ((l13.trans l4).trans l5) hp⟩
      | false =>
        rw [if_neg Bool.false_ne_true]
        exact ⟨false, rfl, hk false w3 z3 b3 l13 (h5 rfl)⟩)
theorem get_mid {α : Type} (l : List α) (a b : α) : ((l ++ [a]) ++ [b])[l.length]? = some a := by simp
theorem set_mid {α : Type} (l : List α) (a b c : α) : ((l ++ [a]) ++ [b]).set l.length c = (l ++ [c]) ++ [b] := by simp
theorem frz_other {om : List OO} {b : OO} {d : PyData} : frzS (om ++ [b]).length d (.ob om.length) = .ob om.length := by
  show (if om.length = (om ++ [b]).length then Sl.sh d else Sl.ob om.length) = _
  exact if_neg (by simp)
theorem frz_same {n : Nat} {d : PyData} : frzS n d (.ob n) = .sh d := by
  show (if n = n then Sl.sh d else Sl.ob n) = _
  exact if_pos rfl
end
end Dl

namespace Dl
open PySem PySem.Spec L2
open PyProof.Rows hiding St
/-! ### places of a store; xs.index(text) -/
theorem get_mids {α : Type} (l : List α) (a : α) (m : List α) : ((l ++ [a]) ++ m)[l.length]? = some a := by simp
theorem set_mids {α : Type} (l : List α) (a c : α) (m : List α) : ((l ++ [a]) ++ m).set l.length c = (l ++ [c]) ++ m := by simp
theorem get_mids2 {α : Type} (l : List α) (a : α) (m : List α) (x : α) : (((l ++ [a]) ++ m) ++ [x])[l.length]? = some a := by simp
theorem set_mids2 {α : Type} (l : List α) (a c : α) (m : List α) (x : α) : (((l ++ [a]) ++ m) ++ [x]).set l.length c = ((l ++ [c]) ++ m) ++ [x] := by simp
theorem len_mids {α : Type} (l : List α) (a : α) (m : List α) : ((l ++ [a]) ++ m).length = l.length + 1 + m.length := by simp; omega
theorem get_lasts {α : Type} (l : List α) (a : α) (m : List α) (x : α) : (((l ++ [a]) ++ m) ++ [x])[l.length + 1 + m.length]? = some x := by rw [← len_mids l a m, get_end]
theorem set_lasts {α : Type} (l : List α) (a : α) (m : List α) (x y : α) : (((l ++ [a]) ++ m) ++ [x]).set (l.length + 1 + m.length) y = ((l ++ [a]) ++ m) ++ [y] := by rw [← len_mids l a m, set_end]
theorem frz_mids {om om2 : List OO} {d : PyData} : frzS (om.length + 1 + om2.length) d (.ob om.length) = .ob om.length := by
  show (if om.length = om.length + 1 + om2.length then Sl.sh d else Sl.ob om.length) = _
  exact if_neg (by omega)
theorem get_last2 {α : Type} (l : List α) (a b : α) : ((l ++ [a]) ++ [b])[l.length + 1]? = some b := by simp
theorem set_last2 {α : Type} (l : List α) (a b c : α) : ((l ++ [a]) ++ [b]).set (l.length + 1) c = (l ++ [a]) ++ [c] := by simp
theorem frz_box {om : List OO} {d : PyData} : frzS (om.length + 1) d (.ob om.length) = .ob om.length := by
  show (if om.length = om.length + 1 then Sl.sh d else Sl.ob om.length) = _
  exact if_neg (by omega)
theorem base_dict {ks : List (Option Expr)} {vs : List Expr} {p : Pos} {m : Str} {E : Env} {t : Sem Value} : attributeBase (.Dict ks vs p) m E t = t := rfl
theorem base_list {es : List Expr} {p : Pos} {m : Str} {E : Env} {t : Sem Value} : attributeBase (.List es p) m E t = t := rfl
theorem DqAll_strs {K : PySem.W.Frag} {H : Hp} : ∀ {xs : List V} {ks : List Str}, DqAll K H xs (ks.map .str) → xs = ks.map V.str
  | _, [], .nil => rfl
  | _, k :: ks, .cons q t => by
    cases Dp_str q
    rw [DqAll_strs t]
    rfl
section
variable {X : Cx} {o e : Expr} {apos cpos : Pos} {z : Z} {Q : Sl → Z → Prop}
theorem we_indexF (h : WE X o z fun x z1 => ∃ ks : List Str, x = .sh (.list (ks.map .str)) ∧ WA X [e] z1 fun ys z2 => ∃ (k : Str) (j : Nat), ys = [.sh (.str k)] ∧ ks[j]? = some k ∧ (∀ m, m < j → ks[m]? ≠ some k) ∧ Q (.sh (.int j)) z2)
    (hbase : attributeBase o "index" X.env (eval o X.env) = eval o X.env)
    (hfew : ((backTo cpos (starEach [e] X.env)).all (fun x => !x.1) && (backToKw cpos (keywordEach [] X.env)).all (fun x => x.1.isSome)
      && decide ([e].length + ([] : List Keyword).length + (if ([] : List Keyword).isEmpty then 0 else 1) < 30)) = true := by rfl)
    (hline : (apos.endLine == cpos.line) = true := by rfl) (hs : starEach [e] X.env = (false, eval e X.env) :: starEach [] X.env := by rfl) (hplain : (backTo cpos (starEach [] X.env)).any (·.1) = false := by rfl) :
    WE X (.Call (.Attribute o "index" apos) [e] [] cpos) z Q := fun c w σ k bb hk =>
  tE_of (pe_bm F.plainAttrs_list F.slot_list_index F.type_list_index mB_op peB paB hbase hfew hline hs hplain) (h c w σ _ bb fun v x w1 z1 b1 l1 r1 ⟨ks, e1, h1⟩ => by
    subst e1
    obtain ⟨p, xs, rfl, q1, s1⟩ := Dp_lstI r1
    cases DqAll_strs s1
    refine ⟨.inl ⟨rfl, _, .inl (Same.rd b1.same q1)⟩, h1 c w1 σ _ b1 fun us ys w2 z2 b2 l2 r2 ⟨k2, j, ey, hj, hm, hq⟩ => ?_⟩
    subst ey
    obtain ⟨u, rfl, r3⟩ := p1 r2
    cases Dp_str r3
    obtain ⟨p', xs', e, q2, s2⟩ := Dp_lstI (r1.mono l2)
    cases e
    cases DqAll_strs s2
    refine mB_of mt_index ⟨p, ks.map V.str, .str k2, j, .str k2, rfl, rfl, .inl (Same.rd b2.same q2), rfl, ?_, ?_, ?_, ?_, hk _ _ _ _ b2 (l1.trans l2) (vI _) hq⟩
    · rw [List.all_eq_true]
      intro y hy
      obtain ⟨t, _, rfl⟩ := List.mem_map.mp hy
      rfl
    · rw [List.getElem?_map, hj]
      rfl
    · simp [eqV]
    · intro m z' hlt hz
      rw [List.getElem?_map] at hz
      obtain ⟨t, ht, rfl⟩ := Option.map_eq_some_iff.mp hz
      have hne : t ≠ k2 := fun e => hm m hlt (by rw [ht, e])
      simp [eqV, hne])
/-- list(range(n)) -/
def rngD (n : Nat) : List PyData := (List.range n).map fun (i : Nat) => .int (i : Int)
theorem dq_ints {K : PySem.W.Frag} {H : Hp} : ∀ ns : List Int, DqAll K H (ns.map V.int) (ns.map PyData.int)
  | [] => .nil
  | n :: ns => .cons (.int n) (dq_ints ns)
theorem we_listRg {p p2 pos2 : Pos} (hl : Bt X "list" "list") (hg : Gn X "range") (hm : X.mg "range" = none) (hc : X.calm = true) (h : WE X e z fun x z1 => ∃ n : Nat, x = .sh (.int n) ∧ n ≤ 100000 ∧ Q (.sh (.list (rngD n))) z1)
    (he : starEach [.Call (.Name "range" p2) [e] [] pos2] X.env = (false, eval (.Call (.Name "range" p2) [e] [] pos2) X.env) :: starEach [] X.env := by rfl) (he2 : starEach [e] X.env = (false, eval e X.env) :: starEach [] X.env := by rfl) :
    WE X (.Call (.Name "list" p) [.Call (.Name "range" p2) [e] [] pos2] [] cpos) z Q := fun c w σ k bb hk =>
  tE_of (pe_listRg hc hl.g.g hl.m (prg_1 hg.g hm peB he2) he) (h c w σ _ bb fun v x w1 z1 b1 l1 r1 ⟨n, e1, hn, hq⟩ => by
    subst e1
    cases Dp_int r1
    refine ⟨n, rfl, ⟨by omega, by omega, by omega, by omega, by omega⟩, ?_⟩
    have e2 : rgV 0 (n : Int) = ((List.range n).map fun (i : Nat) => (i : Int)).map V.int := by
      unfold rgV
      rw [List.map_map, Int.sub_zero, Int.toNat_natCast]
      refine List.map_congr_left fun i _ => ?_
      show V.int (0 + (i : Int)) = V.int (i : Int)
      rw [Int.zero_add]
    have e3 : rngD n = ((List.range n).map fun (i : Nat) => (i : Int)).map PyData.int := by
      unfold rngD
      rw [List.map_map]
      rfl
    rw [e2]
    exact new_lstF b1 (by rw [e3]; exact dq_ints _) (hk.le l1) hq)
end
end Dl

namespace Dl
open PySem PySem.Spec L2
open PyProof.Rows hiding St
/-! ### [e for a in xs for b in ys if t], all of it plain data -/
section
variable {X : Cx} {tg iter elt tg1 iter1 : Expr} {ifs1 : List Expr} {scope : Scope} {z : Z} {pos : Pos} {own : List (Str × Nat)} {vs1 : List Nat} {g g1 : TG} {Q : Sl → Z → Prop}
def Lc2D (X : Cx) (elt tg1 iter1 : Expr) (ifs1 : List Expr) (scope : Scope) (vs vs1 : List Nat) (g g1 : TG) (Q : List PyData → Z → Prop) : List Sl → (Z → Prop) → Z → Prop := fun ys G z1 => G ⟨wipeZ z1.sl vs, z1.ob⟩ ∧ ∃ fs : List (List (Option PyData)), ys.length = fs.length ∧ fs.flatten.length ≤ 100000 ∧
  (∀ (i : Nat) (y : Sl) (ds : List (Option PyData)), ys[i]? = some y → fs[i]? = some ds → GD X.K vs g y ⟨wipeZ z1.sl vs, z1.ob⟩ fun z2 => ∀ s H C cl fp, WI (Blk X scope s H C cl fp) tg1 iter1 z2 fun ys1 G1 z3 => z3 = z2 ∧ ys1.length = ds.length ∧ G1 ⟨wipeZ z2.sl vs1, z2.ob⟩ ∧ z2.ob = z1.ob ∧
    ∀ (j : Nat) (y1 : Sl) (d : Option PyData), ys1[j]? = some y1 → ds[j]? = some d → GD X.K vs1 g1 y1 ⟨wipeZ z2.sl vs1, z2.ob⟩ fun z4 => ∀ s H C cl fp, WTs (Blk X scope s H C cl fp) ifs1 z4 fun b z5 => b = d.isSome ∧ z5.ob = z1.ob ∧ ∀ e, d = some e → ∀ s H C cl fp, WE (Blk X scope s H C cl fp) elt z5 fun x z6 => x = .sh e ∧ z6.ob = z1.ob) ∧
  Q (fs.flatten.filterMap _root_.id) z1
theorem lc2_ok {P : List PyData → Z → Prop} {c : Ct} {w : Wd} {σ : St} {k : VK} (bb : B X.K c w σ z) (h : WI X tg iter z (Lc2D X elt tg1 iter1 ifs1 scope (own.map (·.2)) vs1 g g1 P))
    (hk : ∀ D vs ds w1 z1, B X.K c w1 σ z1 → w.Le w1 → Aside c w1 D → w1.H D = some (.lst vs) → Paired (Vl X.K w1) vs (ds.map .sh) → P ds z1 → k (.ref D) w1.H) :
    tLc2 (tI X tg iter) g tYes (fun σ H R => ∀ s H0 C cl fp, tI (Blk X scope s H0 C cl fp) tg1 iter1 σ H R) g1 (fun σ H Q => ∀ s H0 C cl fp, tTs (Blk X scope s H0 C cl fp) ifs1 σ H Q) (fun σ H Q => ∀ s H0 C cl fp, tE (Blk X scope s H0 C cl fp) elt σ H Q) (own.map (·.2)) vs1 σ w.H k := by
  refine h c w σ _ bb fun J ys G w1 z1 b1 l1 dw ⟨hG, fs, hl, hft, hs, hP⟩ D hD => ?_
  have as1 : Aside c w1 D := b1.asideNew hD
  refine ⟨fun i m H' => m = ys.length - i ∧ i ≤ ys.length ∧ ∃ w' vs, B X.K c w' σ z1 ∧ w1.Le w' ∧ w'.H = H' ∧ Aside c w' D ∧ w'.H D = some (.lst vs) ∧ Paired (Vl X.K w') vs (((fs.take i).flatten.filterMap _root_.id).map .sh),
    ⟨ys.length, by simp, Nat.zero_le _, ⟨w1.rho, w1.S, upd w1.H D (.lst [])⟩, [], b1.aside as1, le_aside, rfl, ⟨as1.nr, as1.nS, as1.nc⟩, upd_same, .nil⟩, ?_⟩
  rintro i m H2 ⟨rfl, hi, w2, vs, b2, l2, rfl, as2, hD2, hp2⟩
  have bw := b2.wipe (own.map (·.2))
  by_cases hlt : i < ys.length
  · refine .inr ⟨dw.goes i c w2 _ _ hlt bw l2 hG, fun H' => ∃ w' vs, B X.K c w' σ z1 ∧ w1.Le w' ∧ w'.H = H' ∧ Aside c w' D ∧ w'.H D = some (.lst vs) ∧ Paired (Vl X.K w') vs (((fs.take (i + 1)).flatten.filterMap _root_.id).map .sh),
      fun H' q => ⟨ys.length - (i + 1), by omega, rfl, hlt, q⟩, fun x H' y => ?_⟩
    have hy : ys[i]? = some ys[i] := List.getElem?_eq_getElem hlt
    have hif : i < fs.length := by omega
    obtain ⟨ds, hds⟩ : ∃ ds, ds = fs[i] := ⟨_, rfl⟩
    have hf : fs[i]? = some ds := by rw [hds]; exact List.getElem?_eq_getElem hif
    have efl : (fs.take (i + 1)).flatten = (fs.take i).flatten ++ ds := by
      rw [List.take_add_one, hf, List.flatten_append]
      simp
    have hlen : (fs.take i).flatten.length + ds.length ≤ 100000 := by
      have h1 : ((fs.take (i + 1)).flatten ++ (fs.drop (i + 1)).flatten) = fs.flatten := by rw [← List.flatten_append, List.take_append_drop]
      have h2 := congrArg List.length h1
      rw [efl, List.length_append, List.length_append] at h2
      omega
    obtain ⟨w3, rfl, b3, l3, r3⟩ := dw.yields i w2.ct w2 _ _ x H' ys[i] hy bw.self l2 hG y
    refine hs i ys[i] ds hy hf w2.ct w3 _ x _ b3 r3 fun w4 σ4 z4 b4 l4 hwp hw => ⟨hwp.trans (wipe_wipe σ _), ?_⟩
    simp only [tYes, if_true]
    intro s0 H0 C cl fp
    refine hw s0 H0 C cl fp w2.ct w4 σ4 _ b4 fun J1 ys1 G1 w5 z5 b5 l5 dw1 ⟨e5, ey1, hG1, eob, hin⟩ => ?_
    subst e5
    have b5 : B X.K w2.ct w5 σ4 z5 := b5
    have l25 : w2.Le w5 := (l3.trans l4).trans l5
    have b5c : B X.K c w5 σ z1 := by
      have := b2.slots (b2.comp b5) l25
      rw [eob] at this
      exact this
    obtain ⟨as5, hD5⟩ := as2.on b2 hD2 b5
    refine ⟨fun j k H' => k = ys1.length - j ∧ j ≤ ys1.length ∧ ∃ w' vs, B X.K c w' σ z1 ∧ w5.Le w' ∧ w'.H = H' ∧ Aside c w' D ∧ w'.H D = some (.lst vs) ∧ Paired (Vl X.K w') vs ((((fs.take i).flatten ++ ds.take j).filterMap _root_.id).map .sh),
      ⟨ys1.length, by simp, Nat.zero_le _, w5, vs, b5c, .refl w5, rfl, as5, hD5, by rw [List.take_zero, List.append_nil]; exact hp2.mono fun _ _ q => q.mono l25⟩, ?_⟩
    rintro j k6 H6 ⟨rfl, hj, w6, vs6, b6, l6, rfl, as6, hD6, hp6⟩
    have b6' : B X.K c w6 σ4 z5 := by
      have := b5.slots b6 l6
      rw [← eob] at this
      exact this
    have bw6 := b6'.wipe vs1
    by_cases hjl : j < ys1.length
    · refine .inr ⟨dw1.goes j c w6 _ _ hjl bw6 l6 hG1, fun H' => ∃ w' vs, B X.K c w' σ z1 ∧ w5.Le w' ∧ w'.H = H' ∧ Aside c w' D ∧ w'.H D = some (.lst vs) ∧ Paired (Vl X.K w') vs ((((fs.take i).flatten ++ ds.take (j + 1)).filterMap _root_.id).map .sh),
        fun H' q => ⟨ys1.length - (j + 1), by omega, rfl, hjl, q⟩, fun x1 H7 y1 => ?_⟩
      have hyj : ys1[j]? = some ys1[j] := List.getElem?_eq_getElem hjl
      obtain ⟨d, hd⟩ : ∃ d, ds[j]? = some d := ⟨_, List.getElem?_eq_getElem (by omega)⟩
      obtain ⟨w7, rfl, b7, l7, r7⟩ := dw1.yields j w6.ct w6 _ _ x1 H7 ys1[j] hyj bw6.self l6 hG1 y1
      refine hin j ys1[j] d hyj hd w6.ct w7 _ x1 _ b7 r7 fun w8 σ8 z8 b8 l8 hwp8 hw8 => ⟨hwp8.trans (wipe_wipe σ4 _), ?_⟩
      intro s1 H1 C1 cl1 fp1
      refine wts_ok (hw8 s1 H1 C1 cl1 fp1) w6.ct w8 σ8 _ b8 fun bt w9 z9 b9 l9 ⟨e9, eo9, hq9⟩ => ?_
      have l69 : w6.Le w9 := (l7.trans l8).trans l9
      have ef : (fs.take i).flatten ++ ds.take (j + 1) = ((fs.take i).flatten ++ ds.take j) ++ [d] := by
        rw [List.take_add_one, hd, List.append_assoc]
        rfl
      have hl6 : vs6.length ≤ 100000 := by
        have q1 := List.length_filterMap_le (_root_.id : Option PyData → Option PyData) ((fs.take i).flatten ++ ds.take j)
        rw [List.length_append, List.length_take] at q1
        rw [hp6.length, List.length_map]
        omega
      cases d with
      | none =>
        subst e9
        obtain ⟨as9, hD9⟩ := as6.on b6 hD6 b9
        have b9c : B X.K c w9 σ z1 := by
          have := b6.slots (b6.comp b9) l69
          rw [eo9] at this
          exact this
        show ∃ w' vs, _
        exact ⟨w9, vs6, b9c, l6.trans l69, rfl, as9, hD9, by rw [ef, List.filterMap_append]; simpa using hp6.mono fun _ _ q => q.mono l69⟩
      | some e =>
        subst e9
        show ∀ s H0 C cl fp, tE (Blk X scope s H0 C cl fp) elt σ8 w9.H _
        intro s2 H2 C2 cl2 fp2
        refine hq9 e rfl s2 H2 C2 cl2 fp2 w6.ct w9 σ8 _ b9 fun u x10 w10 z10 b10 l10 r10 ⟨e10, eo10⟩ => ?_
        subst e10
        have b10 : B X.K w6.ct w10 σ8 z10 := b10
        obtain ⟨as10, hD10⟩ := as6.on b6 hD6 b10
        have l610 : w6.Le w10 := l69.trans l10
        have b10c : B X.K c w10 σ z1 := by
          have := b6.slots (b6.comp b10) l610
          rw [eo10] at this
          exact this
        refine ⟨vs6, hD10, ?_, ⟨w10.rho, w10.S, upd w10.H D (.lst (vs6 ++ [u]))⟩, vs6 ++ [u], b10c.aside as10, (l6.trans l610).trans le_aside, rfl, ⟨as10.nr, as10.nS, as10.nc⟩, upd_same, ?_⟩
        · exact Nat.lt_of_le_of_lt hl6 (by decide)
        · rw [ef, List.filterMap_append, List.map_append]
          exact (hp6.mono fun _ _ q => q.mono (l610.trans le_aside)).snoc (r10.mono le_aside)
    · have e : j = ys1.length := by omega
      subst e
      rw [ey1, List.take_of_length_le (Nat.le_refl _), ← efl] at hp6
      exact .inl ⟨dw1.stops c w6 _ _ bw6 l6 hG1, w6, vs6, b6, (l2.trans l25).trans l6, rfl, as6, hD6, hp6⟩
  · have e : i = ys.length := by omega
    subst e
    rw [hl, List.take_of_length_le (Nat.le_refl _)] at hp2
    exact .inl ⟨dw.stops c w2 _ _ bw l2 hG, hk D vs _ w2 z1 b2 (l1.trans l2) as2 hD2 hp2 hP⟩
theorem we_lc2F (hN : X.N.Nodup) (ok : BlkOk X.N X.env.scope scope own) (hv : ∀ i ∈ vs1, i ∈ own.map (·.2)) (hg : ∀ s H C cl fp, PG (Blk X scope s H C cl fp) tg g) (hg1 : ∀ s H C cl fp, PG (Blk X scope s H C cl fp) tg1 g1) (hc : X.calm = true)
    (h : WI X tg iter z (Lc2D X elt tg1 iter1 ifs1 scope (own.map (·.2)) vs1 g g1 fun ds z1 => Q (.sh (.list ds)) z1)) (hs : ∀ x, foldedSetIterable iter X.env x = pure x) (hs1 : ∀ env x, foldedSetIterable iter1 env x = pure x) :
    WE X (.ListComp elt [⟨tg, iter, [], 0⟩, ⟨tg1, iter1, ifs1, 0⟩] scope pos) z Q := by
  intro c w σ k bb hk
  have pe : ∀ s H C cl fp, PE (Blk X scope s H C cl fp) elt (fun σ H Q => ∀ s H0 C cl fp, tE (Blk X scope s H0 C cl fp) elt σ H Q) := fun s H C cl fp => ⟨fun pins s1 σ H1 Q I h => h s H C cl fp pins s1 I⟩
  have pi : ∀ s H C cl fp, PI (Blk X scope s H C cl fp) tg1 iter1 (fun σ H R => ∀ s H0 C cl fp, tI (Blk X scope s H0 C cl fp) tg1 iter1 σ H R) := fun s H C cl fp => ⟨fun pins s1 σ H1 R I h => h s H C cl fp pins s1 I⟩
  have pt : ∀ s H C cl fp, PTs (Blk X scope s H C cl fp) ifs1 (fun σ H Q => ∀ s H0 C cl fp, tTs (Blk X scope s H0 C cl fp) ifs1 σ H Q) := fun s H C cl fp => ⟨fun pins s1 σ H1 Q I h => ptsB.run pins s1 σ H1 Q I (h s H C cl fp)⟩
  refine tE_of (pe_lc2 hc hN piB ok hv hg (fun _ _ _ _ _ => pts_nil) pi hg1 pt pe hs hs1) ?_
  exact lc2_ok bb h fun D vs ds w1 z1 b1 l1 as hD hp hq => hk (.ref D) (.sh (.list ds)) ⟨w1.rho, upd w1.S D (.lst vs), w1.H⟩ z1 (b1.stay as hD) (l1.trans (le_stay as.nS)) (Dq.lst (.inl upd_same) (DpAll_mono (le_stay (w := w1) as.nS).st (allSh_dp (allSh_map _) hp))) hq
end
end Dl

namespace Dl
open PySem PySem.Spec L2
open PyProof.Rows hiding St
/-! ### a comprehension within a comprehension -/
structure GoodB (X : Cx) (P : Program) (w : World) (K : PySem.W.Frag) (mg : Str → Option Value) (base : Heap) (N : List Str) (sc : Scope) (k : Nat) : Prop where
  prog : X.prog = P
  w : X.w = w
  K : X.K = K
  mg : X.mg = mg
  base : X.base = base
  N : X.N = N
  sc : X.env.scope = sc
  calm : X.calm = true
  room : RoomG k X.A
  nd : X.N.Nodup
section
variable {P : Program} {w : World} {K : PySem.W.Frag} {mg : Str → Option Value} {base : Heap} {X : Cx} {N : List Str} {sc : Scope} {k : Nat}
theorem GoodB.blk (g : GoodB X P w K mg base N sc k) {scope : Scope} {own : List (Str × Nat)} (h : blkC N sc scope own = true) : BlkOk X.N X.env.scope scope own := by
  rw [g.N, g.sc]
  exact blkOk_by h
theorem GoodB.bnm (g : GoodB X P w K mg base N sc k) {scope : Scope} {s : Shared} {H : Hp} {C : Addr} {cl : List (Str × Addr)} {fp : List Addr} {l : List (Str × Nat)} (h : l.all (nmB N (relS scope sc)) = true) : Nms (Blk X scope s H C cl fp) l := nms_of (X := Blk X scope s H C cl fp) (sc := relS scope sc) g.N (by rw [← g.sc]; rfl) h
theorem GoodB.bgn (g : GoodB X P w K mg base N sc k) {scope : Scope} {s : Shared} {H : Hp} {C : Addr} {cl : List (Str × Addr)} {fp : List Addr} {l : List Str} (h : l.all (gnB (relS scope sc)) = true) : Gns (Blk X scope s H C cl fp) l := gns_of (X := Blk X scope s H C cl fp) (sc := relS scope sc) (by rw [← g.sc]; rfl) h
theorem GoodB.bcf (g : GoodB X P w K mg base N sc k) {scope : Scope} {s : Shared} {H : Hp} {C : Addr} {cl : List (Str × Addr)} {fp : List Addr} {x : Str} {j : Nat} {ps : List Str} {R : Rl} (h : Gn (Blk X scope s H C cl fp) x) (d : Df P w K mg base x j ps R) : Cf (Blk X scope s H C cl fp) x j ps R := by
  refine ⟨h, ?_⟩
  show Df X.prog X.w X.K X.mg X.base x j ps R
  rw [g.prog, g.w, g.K, g.mg, g.base]
  exact d
theorem GoodB.bbi (g : GoodB X P w K mg base N sc k) {scope : Scope} {s : Shared} {H : Hp} {C : Addr} {cl : List (Str × Addr)} {fp : List Addr} {x : Str} {id : String} (h : Gn (Blk X scope s H C cl fp) x) (hm : mg x = none) (hv : bootBuiltins x = some (.builtin id)) : Bi (Blk X scope s H C cl fp) x id := ⟨h, by
  show X.mg x = none
  rw [g.mg]
  exact hm, hv⟩
theorem GoodB.bbt (g : GoodB X P w K mg base N sc k) {scope : Scope} {s : Shared} {H : Hp} {C : Addr} {cl : List (Str × Addr)} {fp : List Addr} {x : Str} {id : String} (h : Gn (Blk X scope s H C cl fp) x) (hm : mg x = none) (hv : bootBuiltins x = some (.type id)) : Bt (Blk X scope s H C cl fp) x id := ⟨h, by
  show X.mg x = none
  rw [g.mg]
  exact hm, hv⟩
theorem GoodB.bpg (g : GoodB X P w K mg base N sc k) {scope : Scope} {s : Shared} {H : Hp} {C : Addr} {cl : List (Str × Addr)} {fp : List Addr} {x : Str} {i : Nat} {pos : Pos} (h : (decide (N[i]? = some x) && nkB ((relS scope sc).names.lookup x) .local) = true) : PG (Blk X scope s H C cl fp) (.Name x pos) (gName i) := by
  rw [Bool.and_eq_true, decide_eq_true_eq] at h
  have e := nkB_eq h.2
  rw [← g.sc] at e
  exact pg_name (X := Blk X scope s H C cl fp) (show X.N.Nodup from g.nd) (show X.N[i]? = some x by rw [g.N]; exact h.1) (.inl e) (.inr e)
theorem GoodB.inB (g : GoodB X P w K mg base N sc k) {scope : Scope} {s : Shared} {H : Hp} {C : Addr} {cl : List (Str × Addr)} {fp : List Addr} {e : Expr} {z : Z} {Q : Sl → Z → Prop} (l : List (Str × Nat)) (gl : List Str) (h1 : l.all (nmB N (relS scope sc)) = true) (h2 : gl.all (gnB (relS scope sc)) = true)
    (h : Nms (Blk X scope s H C cl fp) l → Gns (Blk X scope s H C cl fp) gl → WE (Blk X scope s H C cl fp) e z Q) : WE (Blk X scope s H C cl fp) e z Q := h (g.bnm h1) (g.bgn h2)
theorem GoodB.inBT (g : GoodB X P w K mg base N sc k) {scope : Scope} {s : Shared} {H : Hp} {C : Addr} {cl : List (Str × Addr)} {fp : List Addr} {e : Expr} {z : Z} {Q : Bool → Z → Prop} (l : List (Str × Nat)) (gl : List Str) (h1 : l.all (nmB N (relS scope sc)) = true) (h2 : gl.all (gnB (relS scope sc)) = true)
    (h : Nms (Blk X scope s H C cl fp) l → Gns (Blk X scope s H C cl fp) gl → WT (Blk X scope s H C cl fp) e z Q) : WT (Blk X scope s H C cl fp) e z Q := h (g.bnm h1) (g.bgn h2)
theorem GoodB.bpg2 (g : GoodB X P w K mg base N sc k) {scope : Scope} {s : Shared} {H : Hp} {C : Addr} {cl : List (Str × Addr)} {fp : List Addr} {x y : Str} {i j : Nat} {p1 p2 pos : Pos} {kk : Nat} (h : (decide (N[i]? = some x) && nkB ((relS scope sc).names.lookup x) .local && (decide (N[j]? = some y) && nkB ((relS scope sc).names.lookup y) .local)) = true) :
    PG (Blk X scope s H C cl fp) (.Tuple [.Name x p1, .Name y p2] kk pos) (gTup X.K 2 (gNames [i, j])) := by
  rw [Bool.and_eq_true] at h
  exact pg_tup (X := Blk X scope s H C cl fp) (show X.calm = true from g.calm) (pgs_cons (g.bpg h.1) (pgs_cons (g.bpg h.2) pgs_nil))
theorem GoodB.bpg3 (g : GoodB X P w K mg base N sc k) {scope : Scope} {s : Shared} {H : Hp} {C : Addr} {cl : List (Str × Addr)} {fp : List Addr} {x y u : Str} {i j m : Nat} {p1 p2 p3 pos : Pos} {kk : Nat} (h : (decide (N[i]? = some x) && nkB ((relS scope sc).names.lookup x) .local && (decide (N[j]? = some y) && nkB ((relS scope sc).names.lookup y) .local) && (decide (N[m]? = some u) && nkB ((relS scope sc).names.lookup u) .local)) = true) :
    PG (Blk X scope s H C cl fp) (.Tuple [.Name x p1, .Name y p2, .Name u p3] kk pos) (gTup X.K 3 (gNames [i, j, m])) := by
  rw [Bool.and_eq_true, Bool.and_eq_true] at h
  exact pg_tup (X := Blk X scope s H C cl fp) (show X.calm = true from g.calm) (pgs_cons (g.bpg h.1.1) (pgs_cons (g.bpg h.1.2) (pgs_cons (g.bpg h.2) pgs_nil)))
theorem GoodB.inBI (g : GoodB X P w K mg base N sc k) {scope : Scope} {s : Shared} {H : Hp} {C : Addr} {cl : List (Str × Addr)} {fp : List Addr} {tg e : Expr} {z : Z} {R : List Sl → (Z → Prop) → Z → Prop} (l : List (Str × Nat)) (gl : List Str) (h1 : l.all (nmB N (relS scope sc)) = true) (h2 : gl.all (gnB (relS scope sc)) = true)
    (h : Nms (Blk X scope s H C cl fp) l → Gns (Blk X scope s H C cl fp) gl → WI (Blk X scope s H C cl fp) tg e z R) : WI (Blk X scope s H C cl fp) tg e z R := h (g.bnm h1) (g.bgn h2)
theorem Good.sub (g : Good X P w K mg base N sc k) {scope : Scope} {s : Shared} {H : Hp} {C : Addr} {cl : List (Str × Addr)} {fp : List Addr} : GoodB (Blk X scope s H C cl fp) P w K mg base N (relS scope sc) k := ⟨g.prog, g.w, g.K, g.mg, g.base, g.N, by rw [← g.sc]; rfl, g.calm, g.room, g.nd⟩
theorem Good.inBs (g : Good X P w K mg base N sc k) {scope : Scope} {s : Shared} {H : Hp} {C : Addr} {cl : List (Str × Addr)} {fp : List Addr} {e : Expr} {z : Z} {Q : Sl → Z → Prop} (l : List (Str × Nat)) (gl : List Str) (h1 : l.all (nmB N (relS scope sc)) = true) (h2 : gl.all (gnB (relS scope sc)) = true)
    (h : Nms (Blk X scope s H C cl fp) l → Gns (Blk X scope s H C cl fp) gl → GoodB (Blk X scope s H C cl fp) P w K mg base N (relS scope sc) k → WE (Blk X scope s H C cl fp) e z Q) : WE (Blk X scope s H C cl fp) e z Q := h (g.bnm h1) (g.bgn h2) g.sub
theorem Good.inBTs (g : Good X P w K mg base N sc k) {scope : Scope} {s : Shared} {H : Hp} {C : Addr} {cl : List (Str × Addr)} {fp : List Addr} {e : Expr} {z : Z} {Q : Bool → Z → Prop} (l : List (Str × Nat)) (gl : List Str) (h1 : l.all (nmB N (relS scope sc)) = true) (h2 : gl.all (gnB (relS scope sc)) = true)
    (h : Nms (Blk X scope s H C cl fp) l → Gns (Blk X scope s H C cl fp) gl → GoodB (Blk X scope s H C cl fp) P w K mg base N (relS scope sc) k → WT (Blk X scope s H C cl fp) e z Q) : WT (Blk X scope s H C cl fp) e z Q := h (g.bnm h1) (g.bgn h2) g.sub
theorem GoodB.sub (g : GoodB X P w K mg base N sc k) {scope : Scope} {s : Shared} {H : Hp} {C : Addr} {cl : List (Str × Addr)} {fp : List Addr} : GoodB (Blk X scope s H C cl fp) P w K mg base N (relS scope sc) k := ⟨g.prog, g.w, g.K, g.mg, g.base, g.N, by rw [← g.sc]; rfl, g.calm, g.room, g.nd⟩
theorem GoodB.inBs (g : GoodB X P w K mg base N sc k) {scope : Scope} {s : Shared} {H : Hp} {C : Addr} {cl : List (Str × Addr)} {fp : List Addr} {e : Expr} {z : Z} {Q : Sl → Z → Prop} (l : List (Str × Nat)) (gl : List Str) (h1 : l.all (nmB N (relS scope sc)) = true) (h2 : gl.all (gnB (relS scope sc)) = true)
    (h : Nms (Blk X scope s H C cl fp) l → Gns (Blk X scope s H C cl fp) gl → GoodB (Blk X scope s H C cl fp) P w K mg base N (relS scope sc) k → WE (Blk X scope s H C cl fp) e z Q) : WE (Blk X scope s H C cl fp) e z Q := h (g.bnm h1) (g.bgn h2) g.sub
theorem GoodB.inBTs (g : GoodB X P w K mg base N sc k) {scope : Scope} {s : Shared} {H : Hp} {C : Addr} {cl : List (Str × Addr)} {fp : List Addr} {e : Expr} {z : Z} {Q : Bool → Z → Prop} (l : List (Str × Nat)) (gl : List Str) (h1 : l.all (nmB N (relS scope sc)) = true) (h2 : gl.all (gnB (relS scope sc)) = true)
    (h : Nms (Blk X scope s H C cl fp) l → Gns (Blk X scope s H C cl fp) gl → GoodB (Blk X scope s H C cl fp) P w K mg base N (relS scope sc) k → WT (Blk X scope s H C cl fp) e z Q) : WT (Blk X scope s H C cl fp) e z Q := h (g.bnm h1) (g.bgn h2) g.sub
end
end Dl

namespace Dl
open PySem PySem.Spec L2
open PyProof.Rows hiding St
/-! ### xs[::-1] of a list that stays -/
section
variable {X : Cx} {z : Z} {Q : Sl → Z → Prop}
theorem s3_revL {ds : List PyData} (hl : ds.length < 100000) (h : Q (.sh (.list ds.reverse)) z) : S3 X (.sh (.list ds)) none none (-1) z Q := fun c w σ v k b r1 hk => by
  obtain ⟨p, xs, rfl, h1, s1⟩ := Dp_lstI r1
  intro pins s σ2 v vl vu vc sl I rx hs pl pu pc
  cases rx
  obtain ⟨its, r, ht, hz⟩ := I.list (.inl (Same.rd b.same h1))
  have hxl : xs.length = ds.length := DpAll_len s1
  have hil2 : its.length = ds.length := by rw [← r.length]; exact hxl
  have hsz : its.toArray.size ≤ sizeLine := by
    rw [List.size_toArray, hil2]
    exact Nat.le_of_lt (Nat.lt_of_lt_of_le hl (by decide))
  refine ⟨"list", _, slot_list_getitem.lookup, ht.isList.typeIs, ?_⟩
  refine wpAny_getItem_list_slice ht.isList hs pl pu pc (by simp) ?_ hsz
  rw [PySem.W.krv_pick]
  have hfin := new_lstF (Q := Q) b (paired_DqAll (paired_rev (DqAll_paired s1))) hk h s.heap.objs.size (I.hok.fresh (Nat.le_refl _))
  refine ⟨.ref s.heap.objs.size, _, I.laid (t' := s.toks) (o := .lst xs.reverse) (fun b ob q => Heap.get?_push_of_some _ q) (Nat.le_refl _) ?_, rfl, hfin⟩
  exact ⟨by rw [List.length_reverse]; exact hz, _, 0, paired_rev (F := RelV) r, Heap.get?_push_size _ rfl⟩
end
end Dl

set_option hygiene false
/-! one step of the walk -/
local macro_rules | `(tactic| walk_at "name") => `(tactic| first
  | ((with_reducible refine' Dl.we_nm (by assumption) ?sd ?sd2 ?_); (case sd => exact rfl); (case sd2 => exact rfl))
  | ((with_reducible refine Dl.we_gint (Dl.Gn.g (by assumption)) (by assumption) ?_ (Dl.Gn.d (by assumption))))
  | ((with_reducible refine Dl.we_gstr (Dl.Gn.g (by assumption)) (by assumption) ?_ (Dl.Gn.d (by assumption)))))
local macro_rules | `(tactic| walk_at "call") => `(tactic| first
  | ((with_reducible refine Dl.we_cE (by assumption) (by assumption) ?sd ?_ ?sd2 ?sd3); (case sd => omega); (case sd2 => exact rfl); (case sd3 => exact rfl))
  | ((with_reducible refine Dl.we_cX (by assumption) (by assumption) ?sd ?_ ?sd2 ?sd3); (case sd => omega); (case sd2 => exact rfl); (case sd3 => exact rfl))
  | ((with_reducible refine Dl.we_cP (by assumption) (by assumption) ?sd ?_ ?sd2 ?sd3); (case sd => omega); (case sd2 => exact rfl); (case sd3 => exact rfl))
  | ((with_reducible refine Dl.we_cN (by assumption) (by assumption) ?sd ?_ ?sd2 ?sd3); (case sd => omega); (case sd2 => exact rfl); (case sd3 => exact rfl)))
local macro_rules | `(tactic| walk_at "bi") => `(tactic| first
  | ((with_reducible refine Dl.we_sortSet (by assumption) (by assumption) (Dl.Good.calm (by assumption)) ?_ ?sd2 ?sd3 ?sd4 ?sd5); (case sd2 => exact rfl); (case sd3 => exact rfl); (case sd4 => exact rfl); (case sd5 => exact rfl))
  | ((with_reducible refine Dl.we_listRg (by assumption) (by assumption) ?sd0 (Dl.Good.calm (by assumption)) ?_ ?sd2 ?sd3); (case sd0 => (rw [g.mg]; exact B.range)); (case sd2 => exact rfl); (case sd3 => exact rfl))
  | ((with_reducible refine Dl.we_isi' (by assumption) (by assumption) ?_ ?sd2 ?sd3 ?sd4); (case sd2 => exact rfl); (case sd3 => exact rfl); (case sd4 => exact rfl))
  | ((with_reducible refine Dl.we_isi2' (by assumption) (by assumption) (by assumption) ?_ ?sd2 ?sd3 ?sd4 ?sd5 ?sd6); (case sd2 => exact rfl); (case sd3 => exact rfl); (case sd4 => exact rfl); (case sd5 => exact rfl); (case sd6 => exact rfl))
  | ((with_reducible refine Dl.we_bi' (by assumption) ?_ ?sd2 ?sd3); (case sd2 => exact rfl); (case sd3 => exact rfl))
  | ((with_reducible refine Dl.we_ty' (by assumption) ?_ ?sd2 ?sd3); (case sd2 => exact rfl); (case sd3 => exact rfl)))
local macro_rules | `(tactic| walk_at "we") => `(tactic| first
  | ((with_reducible show Dl.WE _ (Expr.Name _ _) _ _); walk_at "name")
  | ((with_reducible show Dl.WE _ (Expr.Constant (Const.int _) _ _) _ _); refine Dl.we_int ?_)
  | ((with_reducible show Dl.WE _ (Expr.Constant (Const.str _) _ _) _ _); refine Dl.we_str ?_)
  | ((with_reducible show Dl.WE _ (Expr.Constant (Const.bool _) _ _) _ _); refine Dl.we_bl ?_)
  | ((with_reducible show Dl.WE _ (Expr.Constant Const.none _ _) _ _); refine Dl.we_non ?_)
  | ((with_reducible show Dl.WE _ (Expr.Dict [] [] _) _ _); refine Dl.we_dnew ?_)
  | ((with_reducible show Dl.WE _ (Expr.BinOp _ _ _ _) _ _); refine Dl.we_bin ?_)
  | ((with_reducible show Dl.WE _ (Expr.Subscript _ (Expr.Slice _ _ none _) _) _ _); refine Dl.we_sl ?_)
  | ((with_reducible show Dl.WE _ (Expr.Subscript _ (Expr.Slice _ _ (some _) _) _) _ _); refine Dl.we_sl3 ?_)
  | ((with_reducible show Dl.WE _ (Expr.Subscript (Expr.Dict _ _ _) _ _) _ _); ((with_reducible refine Dl.we_disp3 (by assumption) ?_ ?sd); (case sd => exact fun _ _ => rfl)))
  | ((with_reducible show Dl.WE _ (Expr.Subscript _ _ _) _ _); refine Dl.we_ix ?_)
  | ((with_reducible show Dl.WE _ (Expr.Compare _ _ _ _) _ _); refine Dl.we_cmp ?_)
  | ((with_reducible show Dl.WE _ (Expr.UnaryOp UnaryOp.Not _ _) _ _); refine Dl.we_not ?_)
  | ((with_reducible show Dl.WE _ (Expr.UnaryOp _ _ _) _ _); refine Dl.we_un ?_)
  | ((with_reducible show Dl.WE _ (Expr.IfExp _ _ _ _) _ _); refine Dl.we_ifx ?_)
  | ((with_reducible show Dl.WE _ (Expr.BoolOp _ [_] _) _ _); refine Dl.we_one ?_)
  | ((with_reducible show Dl.WE _ (Expr.BoolOp BoolOp.And _ _) _ _); refine Dl.we_and ?_)
  | ((with_reducible show Dl.WE _ (Expr.BoolOp BoolOp.Or _ _) _ _); refine Dl.we_or ?_)
  | ((with_reducible show Dl.WE _ (Expr.Tuple _ _ _) _ _); refine Dl.we_tup ?_)
  | ((with_reducible show Dl.WE _ (Expr.Call (Expr.Name _ _) _ _ _) _ _); first | walk_at "call" | walk_at "bi")
  | ((with_reducible show Dl.WE _ (Expr.Call (Expr.Attribute _ _ _) _ _ _) _ _); first
      | ((with_reducible show Dl.WE _ (Expr.Call (Expr.Attribute _ (Str.ofString "append") _) _ _ _) _ _); refine Dl.we_mO PySem.F.slot_list_append PySem.F.type_list_append ?_)
      | ((with_reducible show Dl.WE _ (Expr.Call (Expr.Attribute _ (Str.ofString "insert") _) _ _ _) _ _); refine Dl.we_mO PySem.F.slot_list_insert PySem.F.type_list_insert ?_)
      | ((with_reducible show Dl.WE _ (Expr.Call (Expr.Attribute _ (Str.ofString "extend") _) _ _ _) _ _); refine Dl.we_mO PySem.F.slot_list_extend PySem.F.type_list_extend ?_)
      | ((with_reducible show Dl.WE _ (Expr.Call (Expr.Attribute _ (Str.ofString "upper") _) [] _ _) _ _); refine Dl.we_upper ?_)
      | ((with_reducible show Dl.WE _ (Expr.Call (Expr.Attribute _ (Str.ofString "pop") _) (_ :: _) _ _) _ _); refine Dl.we_mO PySem.F.slot_list_pop PySem.F.type_list_pop ?_)
      | ((with_reducible show Dl.WE _ (Expr.Call (Expr.Attribute _ (Str.ofString "pop") _) _ _ _) _ _); refine Dl.we_mO0 PySem.F.slot_list_pop PySem.F.type_list_pop ?_)
      | ((with_reducible show Dl.WE _ (Expr.Call (Expr.Attribute _ (Str.ofString "reverse") _) _ _ _) _ _); refine Dl.we_mO0 PySem.F.slot_list_reverse PySem.F.type_list_reverse ?_)))
local macro_rules | `(tactic| walk_at "wt") => `(tactic| first
  | ((with_reducible show Dl.WT _ (Expr.Compare _ _ _ _) _ _); refine Dl.wt_cmp ?_)
  | ((with_reducible show Dl.WT _ (Expr.UnaryOp UnaryOp.Not _ _) _ _); refine Dl.wt_not ?_)
  | ((with_reducible show Dl.WT _ (Expr.BoolOp _ _ _) _ _); refine Dl.wt_ww ?_)
  | ((with_reducible show Dl.WT _ _ _ _); refine Dl.wt_val ?_))
local macro_rules | `(tactic| walk_at "ww") => `(tactic| first
  | ((with_reducible show Dl.WW _ (Expr.BoolOp BoolOp.And [_] _) _ _); refine Dl.ww_and1 ?_)
  | ((with_reducible show Dl.WW _ (Expr.BoolOp BoolOp.Or [_] _) _ _); refine Dl.ww_or1 ?_)
  | ((with_reducible show Dl.WW _ (Expr.BoolOp BoolOp.And _ _) _ _); refine Dl.ww_and ?_)
  | ((with_reducible show Dl.WW _ (Expr.BoolOp BoolOp.Or _ _) _ _); refine Dl.ww_or ?_))
local macro_rules | `(tactic| walk_at "set") => `(tactic| ((with_reducible refine Dl.w1_ns (by assumption) ?sd ?_); (case sd => exact rfl)))
local macro_rules | `(tactic| walk_at "w1") => `(tactic| first
  | ((with_reducible show Dl.W1 _ (Stmt.If _ _ _ _) _ _); refine Dl.w1_if ?_)
  | ((with_reducible show Dl.W1 _ (Stmt.Return (some _) _) _ _); refine Dl.w1_ret ?_)
  | ((with_reducible show Dl.W1 _ (Stmt.Return none _) _ _); refine Dl.w1_retN ?_)
  | ((with_reducible show Dl.W1 _ (Stmt.Pass _) _ _); refine Dl.w1_pass ?_)
  | ((with_reducible show Dl.W1 _ (Stmt.Break _) _ _); refine Dl.w1_break ?_)
  | ((with_reducible show Dl.W1 _ (Stmt.Continue _) _ _); refine Dl.w1_cont ?_)
  | ((with_reducible show Dl.W1 _ (Stmt.Expr _ _) _ _); refine Dl.w1_expr ?_)
  | ((with_reducible show Dl.W1 _ (Stmt.Assign [Expr.Name _ _] _ _) _ _); walk_at "set")
)
local macro_rules | `(tactic| walk_at "side") => `(tactic| first | assumption | omega | (simp only [List.length_map]; omega) | (refine ⟨?_, ?_⟩ <;> omega) | exact Or.inl ⟨by omega, by omega⟩ | exact Or.inr ⟨by omega, by omega⟩ | exact ⟨by omega, by omega, by omega⟩ | decide | exact ⟨by decide, by decide, by decide⟩ | exact Or.inr ⟨by split <;> omega, by split <;> omega⟩ | (split <;> omega) | (simp; done) | (simp; omega) | walk_at "side2")
local macro_rules | `(tactic| walk_at "side2") => `(tactic| fail "side")
local macro_rules | `(tactic| walk_at "rd") => `(tactic| first
  | with_reducible refine Dl.rd_addI ?_ | with_reducible refine Dl.rd_subI ?_ | ((with_reducible refine Dl.rd_mulI ?sd ?_); (case sd => walk_at "side")) | ((with_reducible refine Dl.rd_modI ?sd ?_); (case sd => walk_at "side")) | ((with_reducible refine Dl.rd_fdivI ?sd ?_); (case sd => walk_at "side")) | ((with_reducible refine Dl.rd_powI ?sd ?_); (case sd => walk_at "side"))
  | with_reducible refine Dl.rd_gtI ?_ | with_reducible refine Dl.rd_ltI ?_ | with_reducible refine Dl.rd_leI ?_ | with_reducible refine Dl.rd_geI ?_ | with_reducible refine Dl.rd_eqI ?_ | with_reducible refine Dl.rd_neI ?_
  | with_reducible refine Dl.rd_isB ?_ | with_reducible refine Dl.rd_isNotB ?_ | ((with_reducible refine Dl.rd_catT ?sd ?_); (case sd => walk_at "side"))
  | with_reducible refine Dl.rd_eqN ?_ | with_reducible refine Dl.rd_inI ?_ | with_reducible refine Dl.rd_notInI ?_
  | with_reducible refine Dl.rd_eqB ?_ | with_reducible refine Dl.rd_neB ?_ | with_reducible refine Dl.rd_eqS ?_ | with_reducible refine Dl.rd_neS ?_ | with_reducible refine Dl.rd_isN ?_ | with_reducible refine Dl.rd_notN ?_
  | ((with_reducible refine Dl.rd_addS ?sd ?_); (case sd => walk_at "side")) | ((with_reducible refine Dl.rd_catF ?sd ?_); (case sd => walk_at "side")) | ((with_reducible refine Dl.rd_repF ?sd ?sd2 ?sd3 ?_); (case sd => walk_at "side"); (case sd2 => walk_at "side"); (case sd3 => walk_at "side")))
local macro_rules | `(tactic| walk_at "id") => `(tactic| first
  | ((with_reducible refine' Dl.id_O ?sd ?sd2 ?_); (case sd => exact rfl); (case sd2 => exact rfl))
  | ((with_reducible refine' Dl.id_L ?sd ?_); (case sd => exact rfl))
  | ((with_reducible refine' Dl.id_T ?sd ?_); (case sd => exact rfl)))
local macro_rules | `(tactic| walk_at "cd") => `(tactic| first
  | with_reducible refine Dl.cd_lenL ?_ | with_reducible refine Dl.cd_lenT ?_ | ((with_reducible refine' Dl.cd_lenO ?sd ?_); (case sd => exact rfl)) | ((with_reducible refine Dl.cd_lenS ?sd ?_); (case sd => walk_at "side")) | with_reducible refine Dl.cd_abs ?_ | with_reducible refine Dl.cd_max ?_ (Dl.Good.calm (by assumption)) | with_reducible refine Dl.cd_min ?_ (Dl.Good.calm (by assumption))
  | with_reducible refine Dl.cd_intI ?_ | with_reducible refine Dl.cd_intB ?_ | with_reducible refine Dl.cd_listL ?_ | with_reducible refine Dl.cd_listT ?_ | with_reducible refine Dl.cd_tupL ?_ | with_reducible refine Dl.cd_tupT ?_)
local macro_rules | `(tactic| walk_at "mo") => `(tactic| first
  | ((with_reducible refine' Dl.mo_append ?sd ?sd2 ?_); (case sd => exact rfl); (case sd2 => walk_at "side"))
  | ((with_reducible refine' Dl.mo_extendT ?sd ?sd2 ?_); (case sd => exact rfl); (case sd2 => walk_at "side"))
  | ((with_reducible refine' Dl.mo_extendF ?sd ?sd2 ?_); (case sd => exact rfl); (case sd2 => walk_at "side"))
  | ((with_reducible refine' Dl.mo_reverse ?sd ?_); (case sd => exact rfl)))
local macro_rules | `(tactic| walk_at "isi") => `(tactic| with_reducible first | exact Dl.isi_non_int | exact Dl.isi_non_bool | exact Dl.isi_non_str | exact Dl.isi_non_list | exact Dl.isi_non_tuple | exact Dl.isi_bool_int | exact Dl.isi_bool_bool | exact Dl.isi_bool_str | exact Dl.isi_bool_list | exact Dl.isi_bool_tuple | exact Dl.isi_int_int | exact Dl.isi_int_bool | exact Dl.isi_int_str | exact Dl.isi_int_list | exact Dl.isi_int_tuple | exact Dl.isi_str_int | exact Dl.isi_str_bool | exact Dl.isi_str_str | exact Dl.isi_str_list | exact Dl.isi_str_tuple | exact Dl.isi_list_int | exact Dl.isi_list_bool | exact Dl.isi_list_str | exact Dl.isi_list_list | exact Dl.isi_list_tuple | exact Dl.isi_tup_int | exact Dl.isi_tup_bool | exact Dl.isi_tup_str | exact Dl.isi_tup_list | exact Dl.isi_tup_tuple)
local macro_rules | `(tactic| walk_at "nz") => `(tactic| first
  | (show Dl.Seq _ _ _ (Dl.Out.nx ⟨[_], _⟩))
  | (show Dl.Seq _ _ _ (Dl.Out.nx ⟨[_, _], _⟩))
  | (show Dl.Seq _ _ _ (Dl.Out.nx ⟨[_, _, _], _⟩))
  | (show Dl.Seq _ _ _ (Dl.Out.nx ⟨[_, _, _, _], _⟩))
  | (show Dl.Seq _ _ _ (Dl.Out.nx ⟨[_, _, _, _, _], _⟩))
  | (show Dl.Seq _ _ _ (Dl.Out.nx ⟨[_, _, _, _, _, _], _⟩))
  | (show Dl.Seq _ _ _ (Dl.Out.nx ⟨[_, _, _, _, _, _, _], _⟩))
  | (show Dl.Seq _ _ _ (Dl.Out.nx ⟨[_, _, _, _, _, _, _, _], _⟩))
  | (show Dl.Seq _ _ _ (Dl.Out.nx ⟨[_, _, _, _, _, _, _, _, _], _⟩))
  | (show Dl.Seq _ _ _ (Dl.Out.nx ⟨[_, _, _, _, _, _, _, _, _, _], _⟩))
  | (show Dl.Seq _ _ _ (Dl.Out.nx ⟨[_, _, _, _, _, _, _, _, _, _, _], _⟩))
  | (show Dl.Seq _ _ _ (Dl.Out.nx ⟨[_, _, _, _, _, _, _, _, _, _, _, _], _⟩))
  | (show Dl.Seq _ _ _ (Dl.Out.nx ⟨[_, _, _, _, _, _, _, _, _, _, _, _, _], _⟩))
  | (show Dl.Seq _ _ _ (Dl.Out.nx ⟨[_, _, _, _, _, _, _, _, _, _, _, _, _, _], _⟩))
  | (show Dl.Seq _ _ _ (Dl.Out.nx ⟨[_, _, _, _, _, _, _, _, _, _, _, _, _, _, _], _⟩))
  | (show Dl.Seq _ _ _ (Dl.Out.nx ⟨[_, _, _, _, _, _, _, _, _, _, _, _, _, _, _, _], _⟩))
  | (show Dl.Seq _ _ _ (Dl.Out.nx ⟨[_, _, _, _, _, _, _, _, _, _, _, _, _, _, _, _, _], _⟩))
  | (show Dl.Seq _ _ _ (Dl.Out.nx ⟨[_, _, _, _, _, _, _, _, _, _, _, _, _, _, _, _, _, _], _⟩)))
local macro_rules | `(tactic| walk_at "nzo") => `(tactic| first
  | (show Dl.Seq _ _ _ (Dl.Out.nx ⟨_, []⟩))
  | (show Dl.Seq _ _ _ (Dl.Out.nx ⟨_, [_]⟩))
  | (show Dl.Seq _ _ _ (Dl.Out.nx ⟨_, [_, _]⟩))
  | (show Dl.Seq _ _ _ (Dl.Out.nx ⟨_, [_, _, _]⟩)))
local macro_rules | `(tactic| walk_at "e") => `(tactic| first
  | ((with_reducible show Dl.WE _ _ _ _); walk_at "we")
  | ((with_reducible show Dl.RD _ _ _ _ _ _); walk_at "rd")
  | ((with_reducible show Dl.ID _ _ _ _ _); walk_at "id")
  | ((with_reducible show Dl.WA _ (_ :: _) _ _); refine Dl.wa_cons ?_)
  | ((with_reducible show Dl.WA _ [] _ _); refine Dl.wa_nil ?_)
  | ((with_reducible show Dl.CD _ _ _ _ _); walk_at "cd")
  | ((with_reducible show Dl.SD _ (Dl.Sl.sh (PyData.list _)) _ _ _ _); refine Dl.sd_LF ?_)
  | ((with_reducible show Dl.SD _ (Dl.Sl.sh (PyData.tuple _)) _ _ _ _); refine Dl.sd_T ?_)
  | ((with_reducible show Dl.UD _ _ _ _ _); refine Dl.ud_neg ?_)
  | ((with_reducible show Dl.W1 _ _ _ _); walk_at "w1")
  | ((with_reducible show Dl.WT _ _ _ _); walk_at "wt")
  | ((with_reducible show Dl.WW _ _ _ _); walk_at "ww")
  | ((with_reducible show Dl.WO _ none _ _); refine Dl.wo_none ?_)
  | ((with_reducible show Dl.WO _ (some _) _ _); refine Dl.wo_some ?_)
  | ((with_reducible show Dl.Tru _ (Dl.Sl.sh (PyData.bool _)) _); refine Dl.tru_i ?_)
  | ((with_reducible show Dl.Seq _ _ _ (Dl.Out.nx _)); first | (walk_at "nz"; (try walk_at "nzo"); refine Dl.seq_nx ?_) | refine Dl.seq_nx ?_)
  | ((with_reducible show Dl.Seq _ _ _ (Dl.Out.rt _ _)); refine Dl.seq_rt ?_)
  | ((with_reducible show Dl.Seq _ _ _ (Dl.Out.bk _)); refine Dl.seq_bk ?_)
  | ((with_reducible show Dl.Seq _ _ _ (Dl.Out.ct _)); refine Dl.seq_ct ?_)
  | ((with_reducible show Dl.JoinQ _ _ (Dl.Out.rt _ _)); refine Dl.join_rt ?_)
  | ((with_reducible show Dl.LoopQ _ _ (Dl.Out.rt _ _)); refine Dl.loop_rt ?_)
  | ((with_reducible show Dl.LoopQ _ _ (Dl.Out.bk _)); refine Dl.loop_bk ?_)
  | ((with_reducible show ∃ (a : Bool), Dl.Isi _ _ _ a ∧ _); refine ⟨_, (by walk_at "isi"), ?_⟩)
  | ((with_reducible show ∃ (a b : Bool), Dl.Isi _ _ _ a ∧ Dl.Isi _ _ _ b ∧ _); refine ⟨_, _, (by walk_at "isi"), (by walk_at "isi"), ?_⟩)
  | ((with_reducible show List.length _ ≤ 100000 ∧ _); refine ⟨by simp, ?_⟩)
  | ((with_reducible show (true = true → _) ∧ (true = false → _)); refine ⟨fun _ => ?_, fun h => Bool.noConfusion h⟩)
  | ((with_reducible show (false = true → _) ∧ (false = false → _)); refine ⟨fun h => Bool.noConfusion h, fun _ => ?_⟩)
  | ((with_reducible show (_ = true → _) ∧ (_ = false → _)); first | refine ⟨fun _ => ?_, fun h => Bool.noConfusion h⟩ | refine ⟨fun h => Bool.noConfusion h, fun _ => ?_⟩ | refine ⟨fun _ => ?_, fun h => absurd h (by decide)⟩ | refine ⟨fun h => absurd h (by decide), fun _ => ?_⟩)
  | ((with_reducible show Dl.WS _ _ _ _); first | refine Dl.ws_cons ?_ | refine Dl.ws_nil ?_)
  | ((with_reducible show ∃ (a : Nat) (b : List Dl.Sl) (c : Int) (d : Nat), _); refine ⟨_, _, _, _, rfl, rfl, rfl, rfl, ?_⟩)
  | ((with_reducible show ∃ (a : Nat) (b : List Dl.Sl), _ = Dl.Sl.ob a ∧ _); refine ⟨_, _, rfl, rfl, ?_⟩)
  | ((with_reducible show Dl.MO _ _ _ _ _ _); walk_at "mo")
  | ((with_reducible show ∃ (a : List PyData), Dl.allSh _ = some a ∧ _); refine ⟨_, rfl, ?_⟩)
  | ((with_reducible show ∃ (a : Int), _); refine ⟨_, rfl, ?_⟩))
local macro_rules | `(tactic| walk_at "dl") => `(tactic| first | ((with_reducible show Dl.W1 _ (Stmt.Assign [Expr.Subscript _ _ _] _ _) _ _); refine Dl.w1_setIx ?_) | walk_at "d")
local macro_rules | `(tactic| walk_at "d") => `(tactic| first | ((with_reducible show Dl.WE _ (Expr.List _ _) _ _); refine Dl.we_lstF ?_) | walk_at "e")
local macro_rules | `(tactic| walk_at "co") => `(tactic| first | ((with_reducible refine Dl.rd_catO ?sd ?_); (case sd => walk_at "side")) | walk_at "d")
local macro_rules | `(tactic| walk_at "lo") => `(tactic| first | ((with_reducible show Dl.CD _ (Value.type "list") _ _ _); first | refine Dl.cd_listLO ?_ | refine Dl.cd_listTO ?_) | walk_at "e")

namespace K09
open PySem PySem.Spec L2 Dl
open PyProof.Rows hiding St

/-! ### terms -/
inductive Tm where
  | v (n : Int)
  | z
  | s (t : Tm)
  | f (t u : Tm)
deriving DecidableEq
namespace Tm
def d : Tm → PyData
  | v n => .int n
  | z => .tuple [.str "0"]
  | s t => .tuple [.str "s", t.d]
  | f t u => .tuple [.str "f", t.d, u.d]
def sz : Tm → Nat
  | v _ => 1
  | z => 1
  | s t => t.sz + 1
  | f t u => t.sz + u.sz + 1
/-- the signs as they stand -/
def lv : Tm → List PyData
  | v n => [.int n]
  | z => [.str "0"]
  | s t => .str "s" :: t.lv
  | f t u => .str "f" :: (t.lv ++ u.lv)
def vs : Tm → List Int
  | v n => [n]
  | z => []
  | s t => t.vs
  | f t u => t.vs ++ u.vs
theorem sz_pos : ∀ t : Tm, 1 ≤ t.sz
  | v _ => Nat.le_refl _
  | z => Nat.le_refl _
  | s t => by show 1 ≤ t.sz + 1; omega
  | f t u => by show 1 ≤ t.sz + u.sz + 1; omega
theorem lv_len : ∀ t : Tm, t.lv.length = t.sz
  | v _ => rfl
  | z => rfl
  | s t => by show t.lv.length + 1 = _; rw [lv_len t]; rfl
  | f t u => by show (t.lv ++ u.lv).length + 1 = _; rw [List.length_append, lv_len t, lv_len u]; rfl
/-- the sign and the parts of what is no variable -/
def sg : Tm → Str
  | v _ => ""
  | z => "0"
  | s _ => "s"
  | f _ _ => "f"
def ps : Tm → List Tm
  | v _ => []
  | z => []
  | s t => [t]
  | f t u => [t, u]
def nv : Tm → Bool
  | v _ => false
  | _ => true
theorem d_nv : ∀ {t : Tm}, t.nv = true → t.d = .tuple (.str t.sg :: t.ps.map d)
  | z, _ => rfl
  | s _, _ => rfl
  | f _ _, _ => rfl
theorem lv_nv : ∀ {t : Tm}, t.nv = true → t.lv = .str t.sg :: (t.ps.map lv).flatten
  | z, _ => rfl
  | s _, _ => by simp [lv, sg, ps]
  | f _ _, _ => by simp [lv, sg, ps]
theorem ps_sz : ∀ {t u : Tm}, u ∈ t.ps → u.sz < t.sz
  | s t, u, h => by
    rw [List.mem_singleton.mp h]
    exact Nat.lt_succ_self _
  | f t u, x, h => by
    simp only [ps, List.mem_cons, List.not_mem_nil, or_false] at h
    rcases h with rfl | rfl
    · show x.sz < x.sz + u.sz + 1
      omega
    · show x.sz < t.sz + x.sz + 1
      omega
theorem ps_len : ∀ t : Tm, t.ps.length ≤ 2
  | v _ => Nat.zero_le _
  | z => Nat.zero_le _
  | s _ => show 1 ≤ 2 by decide
  | f _ _ => show 2 ≤ 2 by decide
theorem ps_sum : ∀ {t : Tm}, t.nv = true → (t.ps.map sz).sum + 1 = t.sz
  | z, _ => rfl
  | s t, _ => by simp [ps, sz]
  | f t u, _ => by simp [ps, sz]
/-- how deep -/
def dp : Tm → Nat
  | v _ => 0
  | z => 0
  | s t => t.dp + 1
  | f t u => max t.dp u.dp + 1
theorem dp_sz : ∀ t : Tm, t.dp ≤ t.sz
  | v _ => Nat.zero_le _
  | z => Nat.zero_le _
  | s t => Nat.succ_le_succ (dp_sz t)
  | f t u => by
    show max t.dp u.dp + 1 ≤ t.sz + u.sz + 1
    have := dp_sz t
    have := dp_sz u
    omega
theorem ps_dp {t u : Tm} (h : u ∈ t.ps) : u.dp < t.dp := by
  cases t with
  | v _ => cases h
  | z => cases h
  | s t =>
    rw [List.mem_singleton.mp h]
    exact Nat.lt_succ_self _
  | f t w =>
    show u.dp < max t.dp w.dp + 1
    rcases List.mem_cons.mp h with rfl | h
    · omega
    · rw [List.mem_singleton.mp h]
      omega
theorem vs_len : ∀ t : Tm, t.vs.length ≤ t.sz
  | .v _ => Nat.le_refl _
  | .z => Nat.zero_le _
  | .s t => Nat.le_trans (vs_len t) (Nat.le_succ _)
  | .f t u => by
    show (t.vs ++ u.vs).length ≤ t.sz + u.sz + 1
    have h1 := vs_len t
    have h2 := vs_len u
    rw [List.length_append]
    omega
end Tm

def topS (i : Nat) : Stmt := PySem.Challenge.pw_ringproofs_k09_what_names_atoms_and_rule.main.body.getD i (.Pass ⟨0, 0, 0, 0⟩)
-- 0: __name__ = 'ringproofs.terms'
-- 1: MOST_VARIABLE = 99
-- 2: PARTS = {'0': 0, 's': 1, 'f': 2}
/-! is_variable -/
abbrev s_is_variable : Stmt := topS 3
def N_is_variable : List Str := ["thing"]
theorem sc_is_variable : FnScope N_is_variable ["thing"] (defScope s_is_variable) := ⟨rfl, rfl, rfl, by decide +kernel, rfl, by decide +kernel, by decide +kernel⟩
abbrev p_is_variable : List Str := ["thing"]
abbrev l_is_variable : List (Str × Nat) := [("thing", 0)]
theorem nm_is_variable : l_is_variable.all (nmB N_is_variable (defScope s_is_variable)) = true := by decide +kernel
theorem ns_is_variable : l_is_variable.all (nsB N_is_variable (defScope s_is_variable)) = true := by decide +kernel
abbrev g_is_variable : List Str := ["isinstance", "int", "bool", "MOST_VARIABLE"]
theorem gn_is_variable : g_is_variable.all (gnB (defScope s_is_variable)) = true := by decide +kernel
/-! parts_of -/
abbrev s_parts_of : Stmt := topS 4
def N_parts_of : List Str := ["thing", "sign", "parts"]
theorem sc_parts_of : FnScope N_parts_of ["thing"] (defScope s_parts_of) := ⟨rfl, rfl, rfl, by decide +kernel, rfl, by decide +kernel, by decide +kernel⟩
abbrev p_parts_of : List Str := ["thing"]
abbrev l_parts_of : List (Str × Nat) := [("thing", 0), ("sign", 1), ("parts", 2)]
theorem nm_parts_of : l_parts_of.all (nmB N_parts_of (defScope s_parts_of)) = true := by decide +kernel
theorem ns_parts_of : l_parts_of.all (nsB N_parts_of (defScope s_parts_of)) = true := by decide +kernel
abbrev g_parts_of : List Str := ["isinstance", "tuple", "len", "str", "PARTS"]
theorem gn_parts_of : g_parts_of.all (gnB (defScope s_parts_of)) = true := by decide +kernel
/-! is_term -/
abbrev s_is_term : Stmt := topS 5
def N_is_term : List Str := ["thing", "left", "one", "parts"]
theorem sc_is_term : FnScope N_is_term ["thing"] (defScope s_is_term) := ⟨rfl, rfl, rfl, by decide +kernel, rfl, by decide +kernel, by decide +kernel⟩
abbrev p_is_term : List Str := ["thing"]
abbrev l_is_term : List (Str × Nat) := [("thing", 0), ("left", 1), ("one", 2), ("parts", 3)]
theorem nm_is_term : l_is_term.all (nmB N_is_term (defScope s_is_term)) = true := by decide +kernel
theorem ns_is_term : l_is_term.all (nsB N_is_term (defScope s_is_term)) = true := by decide +kernel
abbrev g_is_term : List Str := ["len", "is_variable", "parts_of"]
theorem gn_is_term : g_is_term.all (gnB (defScope s_is_term)) = true := by decide +kernel
-- 6: __name__ = 'ringproofs.rules'
-- 7: LETTERS = 'abcdefghijklmnopqrstuvwxyz'
-- 8: MOST_LETTERS = 6
-- 9: NO_NAME = 'if'
-- 10: MOST_TERMS = 2
-- 11: MOST_BODY = 3
/-! is_name -/
abbrev s_is_name : Stmt := topS 12
def N_is_name : List Str := ["thing", "letter"]
theorem sc_is_name : FnScope N_is_name ["thing"] (defScope s_is_name) := ⟨rfl, rfl, rfl, by decide +kernel, rfl, by decide +kernel, by decide +kernel⟩
abbrev p_is_name : List Str := ["thing"]
abbrev l_is_name : List (Str × Nat) := [("thing", 0)]
theorem nm_is_name : l_is_name.all (nmB N_is_name (defScope s_is_name)) = true := by decide +kernel
theorem ns_is_name : l_is_name.all (nsB N_is_name (defScope s_is_name)) = true := by decide +kernel
abbrev g_is_name : List Str := ["isinstance", "str", "len", "MOST_LETTERS", "NO_NAME", "all"]
theorem gn_is_name : g_is_name.all (gnB (defScope s_is_name)) = true := by decide +kernel
/-! is_atom -/
abbrev s_is_atom : Stmt := topS 13
def N_is_atom : List Str := ["thing", "term"]
theorem sc_is_atom : FnScope N_is_atom ["thing"] (defScope s_is_atom) := ⟨rfl, rfl, rfl, by decide +kernel, rfl, by decide +kernel, by decide +kernel⟩
abbrev p_is_atom : List Str := ["thing"]
abbrev l_is_atom : List (Str × Nat) := [("thing", 0)]
theorem nm_is_atom : l_is_atom.all (nmB N_is_atom (defScope s_is_atom)) = true := by decide +kernel
theorem ns_is_atom : l_is_atom.all (nsB N_is_atom (defScope s_is_atom)) = true := by decide +kernel
abbrev g_is_atom : List Str := ["isinstance", "tuple", "len", "MOST_TERMS", "is_name", "all"]
theorem gn_is_atom : g_is_atom.all (gnB (defScope s_is_atom)) = true := by decide +kernel
/-! is_pattern -/
abbrev s_is_pattern : Stmt := topS 14
def N_is_pattern : List Str := ["term", "part"]
theorem sc_is_pattern : FnScope N_is_pattern ["term"] (defScope s_is_pattern) := ⟨rfl, rfl, rfl, by decide +kernel, rfl, by decide +kernel, by decide +kernel⟩
abbrev p_is_pattern : List Str := ["term"]
abbrev l_is_pattern : List (Str × Nat) := [("term", 0)]
theorem nm_is_pattern : l_is_pattern.all (nmB N_is_pattern (defScope s_is_pattern)) = true := by decide +kernel
theorem ns_is_pattern : l_is_pattern.all (nsB N_is_pattern (defScope s_is_pattern)) = true := by decide +kernel
abbrev g_is_pattern : List Str := ["isinstance", "int", "all"]
theorem gn_is_pattern : g_is_pattern.all (gnB (defScope s_is_pattern)) = true := by decide +kernel
/-! variables_as_they_stand -/
abbrev s_variables_as_they_stand : Stmt := topS 15
def N_variables_as_they_stand : List Str := ["head", "found", "term"]
theorem sc_variables_as_they_stand : FnScope N_variables_as_they_stand ["head"] (defScope s_variables_as_they_stand) := ⟨rfl, rfl, rfl, by decide +kernel, rfl, by decide +kernel, by decide +kernel⟩
abbrev p_variables_as_they_stand : List Str := ["head"]
abbrev l_variables_as_they_stand : List (Str × Nat) := [("head", 0), ("found", 1), ("term", 2)]
theorem nm_variables_as_they_stand : l_variables_as_they_stand.all (nmB N_variables_as_they_stand (defScope s_variables_as_they_stand)) = true := by decide +kernel
theorem ns_variables_as_they_stand : l_variables_as_they_stand.all (nsB N_variables_as_they_stand (defScope s_variables_as_they_stand)) = true := by decide +kernel
abbrev g_variables_as_they_stand : List Str := ["isinstance", "int", "list"]
theorem gn_variables_as_they_stand : g_variables_as_they_stand.all (gnB (defScope s_variables_as_they_stand)) = true := by decide +kernel
/-! is_head -/
abbrev s_is_head : Stmt := topS 16
def N_is_head : List Str := ["thing", "told", "term"]
theorem sc_is_head : FnScope N_is_head ["thing"] (defScope s_is_head) := ⟨rfl, rfl, rfl, by decide +kernel, rfl, by decide +kernel, by decide +kernel⟩
abbrev p_is_head : List Str := ["thing"]
abbrev l_is_head : List (Str × Nat) := [("thing", 0), ("told", 1)]
theorem nm_is_head : l_is_head.all (nmB N_is_head (defScope s_is_head)) = true := by decide +kernel
theorem ns_is_head : l_is_head.all (nsB N_is_head (defScope s_is_head)) = true := by decide +kernel
abbrev g_is_head : List Str := ["is_atom", "all", "variables_as_they_stand", "list", "range", "len"]
theorem gn_is_head : g_is_head.all (gnB (defScope s_is_head)) = true := by decide +kernel
/-! is_rule -/
abbrev s_is_rule : Stmt := topS 17
def N_is_rule : List Str := ["thing", "head", "body", "many", "atom", "term"]
theorem sc_is_rule : FnScope N_is_rule ["thing"] (defScope s_is_rule) := ⟨rfl, rfl, rfl, by decide +kernel, rfl, by decide +kernel, by decide +kernel⟩
abbrev p_is_rule : List Str := ["thing"]
abbrev l_is_rule : List (Str × Nat) := [("thing", 0), ("head", 1), ("body", 2), ("many", 3)]
theorem nm_is_rule : l_is_rule.all (nmB N_is_rule (defScope s_is_rule)) = true := by decide +kernel
theorem ns_is_rule : l_is_rule.all (nsB N_is_rule (defScope s_is_rule)) = true := by decide +kernel
abbrev g_is_rule : List Str := ["isinstance", "tuple", "len", "is_head", "MOST_BODY", "all", "variables_as_they_stand"]
theorem gn_is_rule : g_is_rule.all (gnB (defScope s_is_rule)) = true := by decide +kernel
-- 18: __name__ = 'law_ringproofs_k09_what_names_atoms_and_rule'
/-! _law_box -/
abbrev s_box : Stmt := topS 19
def N_box : List Str := ["_law_script", "_law_k", "_law_cell"]
theorem sc_box : FnScope N_box ["_law_script", "_law_k"] (defScope s_box) := ⟨rfl, rfl, rfl, by decide +kernel, rfl, by decide +kernel, by decide +kernel⟩
abbrev p_box : List Str := ["_law_script", "_law_k"]
abbrev l_box : List (Str × Nat) := [("_law_script", 0), ("_law_k", 1), ("_law_cell", 2)]
theorem nm_box : l_box.all (nmB N_box (defScope s_box)) = true := by decide +kernel
theorem ns_box : l_box.all (nsB N_box (defScope s_box)) = true := by decide +kernel
abbrev g_box : List Str := ["len", "abs", "int"]
theorem gn_box : g_box.all (gnB (defScope s_box)) = true := by decide +kernel
/-! _law_take -/
abbrev s_take : Stmt := topS 20
def N_take : List Str := ["_law_box_here", "_law_top", "_law_found", "_law_once"]
theorem sc_take : FnScope N_take ["_law_box_here", "_law_top"] (defScope s_take) := ⟨rfl, rfl, rfl, by decide +kernel, rfl, by decide +kernel, by decide +kernel⟩
abbrev p_take : List Str := ["_law_box_here", "_law_top"]
abbrev l_take : List (Str × Nat) := [("_law_box_here", 0), ("_law_top", 1), ("_law_found", 2), ("_law_once", 3)]
theorem nm_take : l_take.all (nmB N_take (defScope s_take)) = true := by decide +kernel
theorem ns_take : l_take.all (nsB N_take (defScope s_take)) = true := by decide +kernel
abbrev g_take : List Str := []
theorem gn_take : g_take.all (gnB (defScope s_take)) = true := by decide +kernel
/-! _law_pick -/
abbrev s_pick : Stmt := topS 21
def N_pick : List Str := ["_law_box_here", "_law_things"]
theorem sc_pick : FnScope N_pick ["_law_box_here", "_law_things"] (defScope s_pick) := ⟨rfl, rfl, rfl, by decide +kernel, rfl, by decide +kernel, by decide +kernel⟩
abbrev p_pick : List Str := ["_law_box_here", "_law_things"]
abbrev l_pick : List (Str × Nat) := [("_law_box_here", 0), ("_law_things", 1)]
theorem nm_pick : l_pick.all (nmB N_pick (defScope s_pick)) = true := by decide +kernel
theorem ns_pick : l_pick.all (nsB N_pick (defScope s_pick)) = true := by decide +kernel
abbrev g_pick : List Str := ["_law_take", "len"]
theorem gn_pick : g_pick.all (gnB (defScope s_pick)) = true := by decide +kernel
/-! _law_folded -/
abbrev s_folded : Stmt := topS 22
def N_folded : List Str := ["_law_script", "_law_count", "_law_cells", "_law_k", "_law_cell"]
theorem sc_folded : FnScope N_folded ["_law_script", "_law_count"] (defScope s_folded) := ⟨rfl, rfl, rfl, by decide +kernel, rfl, by decide +kernel, by decide +kernel⟩
abbrev p_folded : List Str := ["_law_script", "_law_count"]
abbrev l_folded : List (Str × Nat) := [("_law_script", 0), ("_law_count", 1), ("_law_cells", 2), ("_law_k", 3), ("_law_cell", 4)]
theorem nm_folded : l_folded.all (nmB N_folded (defScope s_folded)) = true := by decide +kernel
theorem ns_folded : l_folded.all (nsB N_folded (defScope s_folded)) = true := by decide +kernel
abbrev g_folded : List Str := ["list", "enumerate"]
theorem gn_folded : g_folded.all (gnB (defScope s_folded)) = true := by decide +kernel
/-! _law_same -/
abbrev s_same : Stmt := topS 23
def N_same : List Str := ["_law_found", "_law_due", "_law_one", "_law_two"]
theorem sc_same : FnScope N_same ["_law_found", "_law_due"] (defScope s_same) := ⟨rfl, rfl, rfl, by decide +kernel, rfl, by decide +kernel, by decide +kernel⟩
abbrev p_same : List Str := ["_law_found", "_law_due"]
abbrev l_same : List (Str × Nat) := [("_law_found", 0), ("_law_due", 1)]
theorem nm_same : l_same.all (nmB N_same (defScope s_same)) = true := by decide +kernel
theorem ns_same : l_same.all (nsB N_same (defScope s_same)) = true := by decide +kernel
abbrev g_same : List Str := ["isinstance", "list", "tuple", "len", "all", "zip", "str", "int", "bool"]
theorem gn_same : g_same.all (gnB (defScope s_same)) = true := by decide +kernel
/-! _law_words -/
abbrev s_words : Stmt := topS 24
def N_words : List Str := ["_law_box_here", "_law_count", "_law_letters", "_law_begun", "_law_by", "_law_tail", "_law_at", "_law_found", "_law_k", "_law_name"]
theorem sc_words : FnScope N_words ["_law_box_here", "_law_count"] (defScope s_words) := ⟨rfl, rfl, rfl, by decide +kernel, rfl, by decide +kernel, by decide +kernel⟩
abbrev p_words : List Str := ["_law_box_here", "_law_count"]
abbrev l_words : List (Str × Nat) := [("_law_box_here", 0), ("_law_count", 1), ("_law_letters", 2), ("_law_begun", 3), ("_law_by", 4), ("_law_tail", 5), ("_law_at", 6), ("_law_found", 7)]
theorem nm_words : l_words.all (nmB N_words (defScope s_words)) = true := by decide +kernel
theorem ns_words : l_words.all (nsB N_words (defScope s_words)) = true := by decide +kernel
abbrev g_words : List Str := ["_law_take", "range", "len"]
theorem gn_words : g_words.all (gnB (defScope s_words)) = true := by decide +kernel
/-! _law_variable -/
abbrev s_variable : Stmt := topS 25
def N_variable : List Str := ["_law_box_here"]
theorem sc_variable : FnScope N_variable ["_law_box_here"] (defScope s_variable) := ⟨rfl, rfl, rfl, by decide +kernel, rfl, by decide +kernel, by decide +kernel⟩
abbrev p_variable : List Str := ["_law_box_here"]
abbrev l_variable : List (Str × Nat) := [("_law_box_here", 0)]
theorem nm_variable : l_variable.all (nmB N_variable (defScope s_variable)) = true := by decide +kernel
theorem ns_variable : l_variable.all (nsB N_variable (defScope s_variable)) = true := by decide +kernel
abbrev g_variable : List Str := ["_law_take"]
theorem gn_variable : g_variable.all (gnB (defScope s_variable)) = true := by decide +kernel
/-! _law_term -/
abbrev s_term : Stmt := topS 26
def N_term : List Str := ["_law_box_here", "_law_deep", "_law_way"]
theorem sc_term : FnScope N_term ["_law_box_here", "_law_deep"] (defScope s_term) := ⟨rfl, rfl, rfl, by decide +kernel, rfl, by decide +kernel, by decide +kernel⟩
abbrev p_term : List Str := ["_law_box_here", "_law_deep"]
abbrev l_term : List (Str × Nat) := [("_law_box_here", 0), ("_law_deep", 1), ("_law_way", 2)]
theorem nm_term : l_term.all (nmB N_term (defScope s_term)) = true := by decide +kernel
theorem ns_term : l_term.all (nsB N_term (defScope s_term)) = true := by decide +kernel
abbrev g_term : List Str := ["_law_take", "_law_variable", "_law_term"]
theorem gn_term : g_term.all (gnB (defScope s_term)) = true := by decide +kernel
/-! _law_counts -/
abbrev s_counts : Stmt := topS 27
def N_counts : List Str := ["_law_box_here", "_law_words_here", "_law_word"]
theorem sc_counts : FnScope N_counts ["_law_box_here", "_law_words_here"] (defScope s_counts) := ⟨rfl, rfl, rfl, by decide +kernel, rfl, by decide +kernel, by decide +kernel⟩
abbrev p_counts : List Str := ["_law_box_here", "_law_words_here"]
abbrev l_counts : List (Str × Nat) := [("_law_box_here", 0), ("_law_words_here", 1)]
theorem nm_counts : l_counts.all (nmB N_counts (defScope s_counts)) = true := by decide +kernel
theorem ns_counts : l_counts.all (nsB N_counts (defScope s_counts)) = true := by decide +kernel
abbrev g_counts : List Str := ["dict"]
theorem gn_counts : g_counts.all (gnB (defScope s_counts)) = true := by decide +kernel
/-! _law_head -/
abbrev s_head : Stmt := topS 28
def N_head : List Str := ["_law_box_here", "_law_word", "_law_many", "_law_parts", "_law_count", "_law_turn", "_law_way"]
theorem sc_head : FnScope N_head ["_law_box_here", "_law_word", "_law_many"] (defScope s_head) := ⟨rfl, rfl, rfl, by decide +kernel, rfl, by decide +kernel, by decide +kernel⟩
abbrev p_head : List Str := ["_law_box_here", "_law_word", "_law_many"]
abbrev l_head : List (Str × Nat) := [("_law_box_here", 0), ("_law_word", 1), ("_law_many", 2), ("_law_parts", 3), ("_law_count", 4), ("_law_turn", 5), ("_law_way", 6)]
theorem nm_head : l_head.all (nmB N_head (defScope s_head)) = true := by decide +kernel
theorem ns_head : l_head.all (nsB N_head (defScope s_head)) = true := by decide +kernel
abbrev g_head : List Str := ["range", "_law_take", "tuple"]
theorem gn_head : g_head.all (gnB (defScope s_head)) = true := by decide +kernel
/-! _law_rule -/
abbrev s_rule : Stmt := topS 29
def N_rule : List Str := ["_law_box_here", "_law_counts_here", "_law_words_here", "_law_word", "_law_head_here", "_law_count", "_law_body", "_law_turn", "_law_other", "_law_place"]
theorem sc_rule : FnScope N_rule ["_law_box_here", "_law_counts_here"] (defScope s_rule) := ⟨rfl, rfl, rfl, by decide +kernel, rfl, by decide +kernel, by decide +kernel⟩
abbrev p_rule : List Str := ["_law_box_here", "_law_counts_here"]
abbrev l_rule : List (Str × Nat) := [("_law_box_here", 0), ("_law_counts_here", 1), ("_law_words_here", 2), ("_law_word", 3), ("_law_head_here", 4), ("_law_count", 5), ("_law_body", 6), ("_law_turn", 7), ("_law_other", 8)]
theorem nm_rule : l_rule.all (nmB N_rule (defScope s_rule)) = true := by decide +kernel
theorem ns_rule : l_rule.all (nsB N_rule (defScope s_rule)) = true := by decide +kernel
abbrev g_rule : List Str := ["sorted", "_law_pick", "_law_head", "range", "_law_take", "tuple"]
theorem gn_rule : g_rule.all (gnB (defScope s_rule)) = true := by decide +kernel
/-! _law_is_name -/
abbrev s_own_is_name : Stmt := topS 30
def N_own_is_name : List Str := ["_law_thing", "_law_sign"]
theorem sc_own_is_name : FnScope N_own_is_name ["_law_thing"] (defScope s_own_is_name) := ⟨rfl, rfl, rfl, by decide +kernel, rfl, by decide +kernel, by decide +kernel⟩
abbrev p_own_is_name : List Str := ["_law_thing"]
abbrev l_own_is_name : List (Str × Nat) := [("_law_thing", 0)]
theorem nm_own_is_name : l_own_is_name.all (nmB N_own_is_name (defScope s_own_is_name)) = true := by decide +kernel
theorem ns_own_is_name : l_own_is_name.all (nsB N_own_is_name (defScope s_own_is_name)) = true := by decide +kernel
abbrev g_own_is_name : List Str := ["isinstance", "str", "len", "all"]
theorem gn_own_is_name : g_own_is_name.all (gnB (defScope s_own_is_name)) = true := by decide +kernel
/-! _law_is_variable -/
abbrev s_own_is_variable : Stmt := topS 31
def N_own_is_variable : List Str := ["_law_thing"]
theorem sc_own_is_variable : FnScope N_own_is_variable ["_law_thing"] (defScope s_own_is_variable) := ⟨rfl, rfl, rfl, by decide +kernel, rfl, by decide +kernel, by decide +kernel⟩
abbrev p_own_is_variable : List Str := ["_law_thing"]
abbrev l_own_is_variable : List (Str × Nat) := [("_law_thing", 0)]
theorem nm_own_is_variable : l_own_is_variable.all (nmB N_own_is_variable (defScope s_own_is_variable)) = true := by decide +kernel
theorem ns_own_is_variable : l_own_is_variable.all (nsB N_own_is_variable (defScope s_own_is_variable)) = true := by decide +kernel
abbrev g_own_is_variable : List Str := ["isinstance", "int", "bool"]
theorem gn_own_is_variable : g_own_is_variable.all (gnB (defScope s_own_is_variable)) = true := by decide +kernel
/-! _law_is_term -/
abbrev s_own_is_term : Stmt := topS 32
def N_own_is_term : List Str := ["_law_thing", "_law_part"]
theorem sc_own_is_term : FnScope N_own_is_term ["_law_thing"] (defScope s_own_is_term) := ⟨rfl, rfl, rfl, by decide +kernel, rfl, by decide +kernel, by decide +kernel⟩
abbrev p_own_is_term : List Str := ["_law_thing"]
abbrev l_own_is_term : List (Str × Nat) := [("_law_thing", 0)]
theorem nm_own_is_term : l_own_is_term.all (nmB N_own_is_term (defScope s_own_is_term)) = true := by decide +kernel
theorem ns_own_is_term : l_own_is_term.all (nsB N_own_is_term (defScope s_own_is_term)) = true := by decide +kernel
abbrev g_own_is_term : List Str := ["isinstance", "tuple", "_law_is_variable", "len", "str", "all"]
theorem gn_own_is_term : g_own_is_term.all (gnB (defScope s_own_is_term)) = true := by decide +kernel
/-! _law_is_atom -/
abbrev s_own_is_atom : Stmt := topS 33
def N_own_is_atom : List Str := ["_law_thing", "_law_term_here"]
theorem sc_own_is_atom : FnScope N_own_is_atom ["_law_thing"] (defScope s_own_is_atom) := ⟨rfl, rfl, rfl, by decide +kernel, rfl, by decide +kernel, by decide +kernel⟩
abbrev p_own_is_atom : List Str := ["_law_thing"]
abbrev l_own_is_atom : List (Str × Nat) := [("_law_thing", 0)]
theorem nm_own_is_atom : l_own_is_atom.all (nmB N_own_is_atom (defScope s_own_is_atom)) = true := by decide +kernel
theorem ns_own_is_atom : l_own_is_atom.all (nsB N_own_is_atom (defScope s_own_is_atom)) = true := by decide +kernel
abbrev g_own_is_atom : List Str := ["isinstance", "tuple", "len", "_law_is_name", "all"]
theorem gn_own_is_atom : g_own_is_atom.all (gnB (defScope s_own_is_atom)) = true := by decide +kernel
/-! _law_is_rule -/
abbrev s_own_is_rule : Stmt := topS 34
def N_own_is_rule : List Str := ["_law_thing", "_law_met", "_law_term_here", "_law_atom", "_law_one"]
theorem sc_own_is_rule : FnScope N_own_is_rule ["_law_thing"] (defScope s_own_is_rule) := ⟨rfl, rfl, rfl, by decide +kernel, rfl, by decide +kernel, by decide +kernel⟩
abbrev p_own_is_rule : List Str := ["_law_thing"]
abbrev l_own_is_rule : List (Str × Nat) := [("_law_thing", 0), ("_law_met", 1), ("_law_term_here", 2)]
theorem nm_own_is_rule : l_own_is_rule.all (nmB N_own_is_rule (defScope s_own_is_rule)) = true := by decide +kernel
theorem ns_own_is_rule : l_own_is_rule.all (nsB N_own_is_rule (defScope s_own_is_rule)) = true := by decide +kernel
abbrev g_own_is_rule : List Str := ["isinstance", "tuple", "len", "_law_is_atom", "int", "list", "all", "range"]
theorem gn_own_is_rule : g_own_is_rule.all (gnB (defScope s_own_is_rule)) = true := by decide +kernel
/-! _law_odd -/
abbrev s_odd : Stmt := topS 35
def N_odd : List Str := ["_law_box_here", "_law_some"]
theorem sc_odd : FnScope N_odd ["_law_box_here"] (defScope s_odd) := ⟨rfl, rfl, rfl, by decide +kernel, rfl, by decide +kernel, by decide +kernel⟩
abbrev p_odd : List Str := ["_law_box_here"]
abbrev l_odd : List (Str × Nat) := [("_law_box_here", 0), ("_law_some", 1)]
theorem nm_odd : l_odd.all (nmB N_odd (defScope s_odd)) = true := by decide +kernel
theorem ns_odd : l_odd.all (nsB N_odd (defScope s_odd)) = true := by decide +kernel
abbrev g_odd : List Str := ["_law_pick"]
theorem gn_odd : g_odd.all (gnB (defScope s_odd)) = true := by decide +kernel
/-! _law_bent -/
abbrev s_bent : Stmt := topS 36
def N_bent : List Str := ["_law_box_here", "_law_thing", "_law_parts", "_law_way", "_law_at"]
theorem sc_bent : FnScope N_bent ["_law_box_here", "_law_thing"] (defScope s_bent) := ⟨rfl, rfl, rfl, by decide +kernel, rfl, by decide +kernel, by decide +kernel⟩
abbrev p_bent : List Str := ["_law_box_here", "_law_thing"]
abbrev l_bent : List (Str × Nat) := [("_law_box_here", 0), ("_law_thing", 1), ("_law_parts", 2), ("_law_way", 3), ("_law_at", 4)]
theorem nm_bent : l_bent.all (nmB N_bent (defScope s_bent)) = true := by decide +kernel
theorem ns_bent : l_bent.all (nsB N_bent (defScope s_bent)) = true := by decide +kernel
abbrev g_bent : List Str := ["isinstance", "tuple", "_law_take", "int", "bool", "_law_odd", "list", "len", "_law_bent"]
theorem gn_bent : g_bent.all (gnB (defScope s_bent)) = true := by decide +kernel
/-! _law_asked_right -/
abbrev s_asked_right : Stmt := topS 37
def N_asked_right : List Str := ["_law_thing", "_law_stays", "_law_found"]
theorem sc_asked_right : FnScope N_asked_right ["_law_thing"] (defScope s_asked_right) := ⟨rfl, rfl, rfl, by decide +kernel, rfl, by decide +kernel, by decide +kernel⟩
abbrev p_asked_right : List Str := ["_law_thing"]
abbrev l_asked_right : List (Str × Nat) := [("_law_thing", 0), ("_law_stays", 1), ("_law_found", 2)]
theorem nm_asked_right : l_asked_right.all (nmB N_asked_right (defScope s_asked_right)) = true := by decide +kernel
theorem ns_asked_right : l_asked_right.all (nsB N_asked_right (defScope s_asked_right)) = true := by decide +kernel
abbrev g_asked_right : List Str := ["repr", "is_name", "is_atom", "is_rule", "_law_same", "_law_is_name", "_law_is_atom", "_law_is_rule"]
theorem gn_asked_right : g_asked_right.all (gnB (defScope s_asked_right)) = true := by decide +kernel
/-! law -/
abbrev s_law : Stmt := topS 38
def N_law : List Str := ["_law_script", "_law_cells", "_law_k", "_law_box_here", "_law_counts_here", "_law_turn", "_law_word", "_law_atom", "_law_one", "_law_again", "_law_bent_here", "_law_once", "_law_place"]
theorem sc_law : FnScope N_law ["_law_script"] (defScope s_law) := ⟨rfl, rfl, rfl, by decide +kernel, rfl, by decide +kernel, by decide +kernel⟩
abbrev p_law : List Str := ["_law_script"]
abbrev l_law : List (Str × Nat) := [("_law_script", 0), ("_law_cells", 1), ("_law_k", 2), ("_law_box_here", 3), ("_law_counts_here", 4), ("_law_turn", 5), ("_law_word", 6), ("_law_atom", 7), ("_law_one", 8), ("_law_again", 9), ("_law_bent_here", 10), ("_law_once", 11)]
theorem nm_law : l_law.all (nmB N_law (defScope s_law)) = true := by decide +kernel
theorem ns_law : l_law.all (nsB N_law (defScope s_law)) = true := by decide +kernel
abbrev g_law : List Str := ["_law_folded", "range", "len", "_law_box", "_law_counts", "_law_words", "_law_pick", "sorted", "tuple", "_law_rule", "_law_asked_right", "_law_take", "isinstance", "_law_bent", "_law_odd"]
theorem gn_law : g_law.all (gnB (defScope s_law)) = true := by decide +kernel

/-! ### what is drawn -/
theorem atI_ex {ds : List PyData} {r : Int} (h0 : 0 ≤ r) (h1 : r < ds.length) : ∃ d, atI ds r = some d ∧ d ∈ ds := by
  obtain ⟨j, rfl⟩ := Int.eq_ofNat_of_zero_le h0
  have hk : j < ds.length := by omega
  exact ⟨ds[j], atI_nat (List.getElem?_eq_getElem hk), List.getElem_mem hk⟩
theorem rngL_len (lo : Int) (n : Nat) : (rngL lo n).length = n := by simp [rngL]
theorem rngL_get {lo : Int} {n i : Nat} {y : Sl} (h : (rngL lo n)[i]? = some y) : i < n ∧ y = .sh (.int (lo + (i : Int))) := by
  have hi : i < n := by
    have := (List.getElem?_eq_some_iff.mp h).1
    rw [rngL_len] at this
    exact this
  unfold rngL at h
  rw [List.getElem?_map, List.getElem?_range hi] at h
  exact ⟨hi, (Option.some.inj h).symm⟩
theorem atI_ints {ns : List Int} {k : Int} (h0 : 0 ≤ k) (h1 : k < ns.length) : ∃ n, atI (ns.map PyData.int) k = some (.int n) := by
  obtain ⟨j, rfl⟩ := Int.eq_ofNat_of_zero_le h0
  have hk : j < ns.length := by omega
  refine ⟨ns[j], atI_nat ?_⟩
  rw [List.getElem?_map, List.getElem?_eq_getElem hk]
  rfl
theorem cut_to {ds : List PyData} {j : Nat} (h : j ≤ ds.length) : cutL ds none (some (j : Int)) = ds.take j := by
  unfold cutL
  rw [HT.sIx_none, HT.sIx_nat, List.drop_zero, Nat.sub_zero, Nat.min_eq_left h]
theorem cut_from (ds : List PyData) (j : Nat) : cutL ds (some (j : Int)) none = ds.drop j := by
  unfold cutL
  rw [HT.sIx_none, HT.sIx_nat]
  by_cases h : j ≤ ds.length
  · rw [Nat.min_eq_left h, List.take_of_length_le (by simp)]
  · rw [Nat.min_eq_right (by omega), Nat.sub_self, List.take_zero, List.drop_eq_nil_of_le (by omega)]
theorem cut_tail (d : PyData) (ds : List PyData) : cutL (d :: ds) (some 1) none = ds := cut_from (d :: ds) 1
theorem room_fit {k : Nat} {A : Around} (r : RoomG k A) : A.units + 64 < cLine := by
  have := r.r.un
  omega
theorem room_one {k : Nat} {A : Around} (r : RoomG k A) : A.units + 1 < cLine := by
  have := r.r.un
  omega
def preTake : List PyData → Prop := fun ds => ∃ n : Int, ds = [.int n] ∧ 0 < n ∧ n < 1073741824
def postTake : List PyData → PyData → Prop := fun ds d => ∃ n r : Int, ds = [.int n] ∧ d = .int r ∧ 0 ≤ r ∧ r < n
def RBox : Rl := fun xs om Q => ∃ (ns : List Int) (k : Int), xs = [.sh (.list (ns.map .int)), .sh (.int k)] ∧ om = [] ∧ 0 ≤ k ∧ k ≤ 63 ∧ ∀ b : Bx, b.G → b.c + 1000000000 ≤ 1099511627776 → Q (.ob 0) [b.o]
def prePick : List PyData → Prop := fun ds => ∃ ts : List PyData, ds = [.list ts] ∧ 0 < ts.length ∧ ts.length < 100000
def postPick : List PyData → PyData → Prop := fun ds d => ∃ ts : List PyData, ds = [.list ts] ∧ d ∈ ts
section
variable {P : Program} {w : World} {K : PySem.W.Frag} {mg : Str → Option Value} {base : Heap}
theorem fn_take {f : Addr} {fd : FuncData} (F : Fun K "_law_take" "_law_take" s_take f fd) (B : Bare mg)  : FnG P w K mg base CX0 (1) f fd p_take (spD K p_take.length (BoxE preTake 1 postTake)) := by
  refine fn_okN F sc_take nm_take ns_take gn_take (fun X g nm ns gn xs om Qd hl hR => ?_)
  have hr := g.room
  obtain ⟨_, _, _, _, _⟩ := nm
  obtain ⟨n_box_here, n_top, n_found, n_once, _⟩ := ns
  obtain ⟨b, ds, rfl, rfl, hG, hc, ⟨n, rfl, h0, h1⟩, hq⟩ := hR
  have ha0 := hG.a0
  have hs0 := hG.s0
  have hs1 := hG.s1
  have hc0 := hG.c0
  show WS _ _ ⟨[.ob 0, .sh (.int n), .no, .no], [b.o]⟩ _
  repeat walk_at "dl"
  refine ⟨fun hc => ?_, fun hc => ?_⟩
  · repeat walk_at "dl"
    exact fin_sh rfl (hq _ ⟨b.a / n, b.s, b.c⟩ ⟨n, b.a % n, rfl, rfl, Int.emod_nonneg _ (by omega), Int.emod_lt_of_pos _ h0⟩ ⟨Int.ediv_nonneg ha0 (by omega), hs0, hs1, hc0⟩ (by show b.c ≤ b.c + ((1 : Nat) : Int); omega))
  · repeat walk_at "dl"
    exact fin_sh rfl (hq _ ⟨b.a, b.s, b.c + 1⟩ ⟨n, _, rfl, rfl, Int.emod_nonneg _ (by omega), Int.emod_lt_of_pos _ h0⟩ ⟨ha0, hs0, hs1, by show 0 ≤ b.c + 1; omega⟩ (by show b.c + 1 ≤ b.c + ((1 : Nat) : Int); omega))
theorem fn_box {f : Addr} {fd : FuncData} (F : Fun K "_law_box" "_law_box" s_box f fd) (B : Bare mg)  : FnG P w K mg base CX0 (1) f fd p_box (spD K p_box.length (RBox)) := by
  refine fn_okN F sc_box nm_box ns_box gn_box (fun X g nm ns gn xs om Qd hl hR => ?_)
  have hr := g.room
  obtain ⟨_, _, _, _⟩ := nm
  obtain ⟨n_script, n_k, n_cell, _⟩ := ns
  obtain ⟨g_len, g_abs, g_int, _⟩ := gn
  have b_len := g.bi g_len B.len PySem.boot_len
  have b_abs := g.bi g_abs B.abs PyProof.Rows.boot_abs
  have b_int := g.bt g_int B.int PyProof.Rows.boot_int
  obtain ⟨ns, k, rfl, rfl, h0, h1, hq⟩ := hR
  show WS _ _ ⟨[.sh (.list (ns.map .int)), .sh (.int k), .no], []⟩ _
  iterate 4 walk_at "e"
  refine ws_join (fun z => ∃ c : Int, z = ⟨[.sh (.list (ns.map .int)), .sh (.int k), .sh (.int c)], []⟩) ?_ ?_
  · repeat walk_at "e"
    refine ⟨fun hc => ?_, fun hc => ?_⟩
    · have hc : k < ((ns.map PyData.int).length : Int) := of_decide_eq_true hc
      obtain ⟨n, hn⟩ := atI_ints h0 (by rw [List.length_map] at hc; exact hc)
      repeat walk_at "e"
      refine id_L hn ?_
      repeat walk_at "e"
      exact join_nx ⟨_, rfl⟩
    · repeat walk_at "e"
      exact join_nx ⟨_, rfl⟩
  · rintro z ⟨c, rfl⟩
    repeat walk_at "e"
    refine we_lst ?_
    have hp : (10 : Int) ^ (18 : Int).toNat = 1000000000000000000 := by decide
    have hm0 := Int.emod_nonneg c (show (2147483629 : Int) ≠ 0 by decide)
    have hm1 := Int.emod_lt_of_pos c (show (0 : Int) < 2147483629 by decide)
    repeat walk_at "e"
    refine fin_new (Nat.zero_le _) rfl rfl rfl ?_
    refine hq ⟨_, _, 0⟩ ⟨Int.mul_nonneg ?_ ?_, ?_, ?_, Int.le_refl 0⟩ (by show (0 : Int) + 1000000000 ≤ _; decide)
    · split <;> omega
    · (repeat' split) <;> omega
    · show (0 : Int) ≤ _ + _ + _; omega
    · show _ + _ + _ < (1099511627776 : Int); omega
end

section
variable {P : Program} {w : World} {K : PySem.W.Frag} {mg : Str → Option Value} {base : Heap}
theorem fn_pick {f : Addr} {fd : FuncData} (F : Fun K "_law_pick" "_law_pick" s_pick f fd) (B : Bare mg) (D_take : Df P w K mg base "_law_take" (1) p_take (BoxE preTake 1 postTake)) : FnG P w K mg base CX0 (2) f fd p_pick (spD K p_pick.length (BoxE prePick 1 postPick)) := by
  refine fn_okN F sc_pick nm_pick ns_pick gn_pick (fun X g nm ns gn xs om Qd hl hR => ?_)
  have hr := g.room
  obtain ⟨_, _, _⟩ := nm
  obtain ⟨n_box_here, n_things, _⟩ := ns
  obtain ⟨g_take, g_len, _⟩ := gn
  have c_take := g.cf g_take D_take
  have b_len := g.bi g_len B.len PySem.boot_len
  obtain ⟨b, ds, rfl, rfl, hG, hc, ⟨ts, rfl, h0, h1⟩, hq⟩ := hR
  show WS _ _ ⟨[.ob 0, .sh (.list ts)], [b.o]⟩ _
  repeat walk_at "e"
  refine ⟨_, _, _, _, rfl, rfl, (by first | rfl | exact get_end _ _ | exact get_mid _ _ _ | exact get_mids _ _ _ | exact get_mids2 _ _ _ _), (by assumption), (by omega), ⟨_, rfl, by omega, by omega⟩, rfl, ?_⟩
  rintro _ b' ⟨_, r, e1, rfl, h0_r, h1_r⟩ hG_b' hc_b'
  cases e1
  try rw [set_end]
  try rw [set_mid]
  try rw [set_mids]
  try rw [set_mids2]
  obtain ⟨j, rfl⟩ := Int.eq_ofNat_of_zero_le h0_r
  have hj : j < ts.length := by omega
  refine id_L (atI_nat (List.getElem?_eq_getElem hj)) ?_
  repeat walk_at "e"
  exact fin_sh rfl (hq _ b' ⟨ts, rfl, List.getElem_mem hj⟩ hG_b' hc_b')
end

/-! ### alike, kind by kind -/
def sameF (n : Nat) : List PyData → PyData → Prop := fun ds r => ∃ d, ds = [d, d] ∧ Pd n d ∧ r = .bool true
theorem zipD_self (ds : List PyData) : zipD ds ds = ds.map fun d => [d, d] := by
  induction ds with
  | nil => rfl
  | cons d r ih => simp [zipD, ih]
section
variable {P : Program} {w : World} {K : PySem.W.Frag} {mg : Str → Option Value} {base : Heap}
theorem step_same {f : Addr} {fd : FuncData} (F : Fun K "_law_same" "_law_same" s_same f fd) (B : Bare mg)  (n : Nat) (hrec : ∀ m, m < n → Df P w K mg base "_law_same" (m + 1) p_same (PureR (sameF m))) : FnG P w K mg base CX0 (n + 1) f fd p_same (spD K p_same.length (PureR (sameF n))) := by
  refine fn_okN F sc_same nm_same ns_same gn_same (fun X g nm ns gn xs om Qd hl hR => ?_)
  have hr := g.room
  obtain ⟨_, _, _⟩ := nm
  obtain ⟨n_found, n_due, _⟩ := ns
  obtain ⟨g_isinstance, g_list, g_tuple, g_len, g_all, g_zip, g_str, g_int, g_bool, _⟩ := gn
  have b_isinstance := g.bi g_isinstance B.isi PyProof.Rows.boot_isinstance
  have b_list := g.bt g_list B.list PyProof.Rows.boot_list
  have b_tuple := g.bt g_tuple B.tup PyProof.Rows.boot_tuple
  have b_len := g.bi g_len B.len PySem.boot_len
  have b_all := g.bi g_all B.all PyProof.Rows.boot_all
  have b_str := g.bt g_str B.str PyProof.Rows.boot_str
  have b_int := g.bt g_int B.int PyProof.Rows.boot_int
  have b_bool := g.bt g_bool B.bool PyProof.Rows.boot_bool
  obtain ⟨ds, r, rfl, rfl, ⟨d, rfl, hp, rfl⟩, hq⟩ := hR
  show WS _ _ ⟨[.sh d, .sh d, .no, .no], []⟩ _
  cases d with
  | none =>
    repeat walk_at "d"
    exact fin_sh rfl hq
  | str x =>
    repeat walk_at "d"
    rw [decide_eq_true (rfl : x = x)]
    repeat walk_at "d"
    exact fin_sh rfl hq
  | bool b =>
    repeat walk_at "d"
    rw [decide_eq_true (rfl : b = b)]
    exact fin_sh rfl hq
  | int i =>
    repeat walk_at "d"
    rw [decide_eq_true (rfl : i = i)]
    exact fin_sh rfl hq
  | dict kvs => cases n <;> exact hp.elim
  | list ds =>
    cases n with
    | zero => exact hp.elim
    | succ n =>
      repeat walk_at "d"
      refine ⟨fun h => ?_, fun _ => ?_⟩
      · simp at h
      repeat walk_at "d"
      with_reducible refine we_lcF (own := [("_law_one", 2), ("_law_two", 3)]) (g := gTup X.K 2 (gNames [2, 3])) g.nd ?lc1 ?lc2 ?_ g.calm ?lc4
      case lc4 => exact fun _ => rfl
      case lc1 => exact g.blk (by decide +kernel)
      case lc2 => exact fun s H C cl fp => g.bpg2 (by decide +kernel)
      refine wi_zip (by rw [g.mg]; exact B.zip) ?_ g_zip.g
      repeat walk_at "d"
      refine ⟨ds, ds, .ls ds ds, ?_⟩
      refine lcd_map (ds.map fun _ => .bool true) ?_ ?_ ?_ (fun i y d hy hd => ?_) ?_
      · simp [zipD_len]
      · simp [zipD_len]
        exact hp.1
      · trivial
      · rw [zipD_self, List.map_map, List.getElem?_map] at hy
        obtain ⟨a, ha, rfl⟩ := Option.map_eq_some_iff.mp hy
        rw [List.getElem?_map, ha] at hd
        cases hd
        refine gd_tp (ds := [a, a]) rfl (by simp) rfl rfl ?_
        intro s H C cl fp
        refine g.inB [("_law_one", 2), ("_law_two", 3)] ["_law_same"] (by decide +kernel) (by decide +kernel) fun nb gb => ?_
        obtain ⟨_, _, _⟩ := nb
        show WE _ _ ⟨[_, _, _, _], _⟩ _
        obtain ⟨h_same, _⟩ := gb
        have cs := g.bcf h_same (hrec n (Nat.lt_succ_self n))
        repeat walk_at "d"
        exact ⟨_, _, rfl, ⟨a, rfl, hp.2 a (List.mem_of_getElem? ha), rfl⟩, rfl, rfl, rfl⟩
      · repeat walk_at "d"
        refine cd_all (bs := ds.map fun _ => true) (by rw [← bls_map, List.map_map]; rfl) ?_ g.calm
        have e : (ds.map fun _ => true).all _root_.id = true := by simp
        rw [e]
        repeat walk_at "d"
        exact fin_sh rfl hq
  | tuple ds =>
    cases n with
    | zero => exact hp.elim
    | succ n =>
      repeat walk_at "d"
      refine ⟨fun h => ?_, fun _ => ?_⟩
      · simp at h
      repeat walk_at "d"
      with_reducible refine we_lcF (own := [("_law_one", 2), ("_law_two", 3)]) (g := gTup X.K 2 (gNames [2, 3])) g.nd ?lc1 ?lc2 ?_ g.calm ?lc4
      case lc4 => exact fun _ => rfl
      case lc1 => exact g.blk (by decide +kernel)
      case lc2 => exact fun s H C cl fp => g.bpg2 (by decide +kernel)
      refine wi_zip (by rw [g.mg]; exact B.zip) ?_ g_zip.g
      repeat walk_at "d"
      refine ⟨ds, ds, .ts ds ds, ?_⟩
      refine lcd_map (ds.map fun _ => .bool true) ?_ ?_ ?_ (fun i y d hy hd => ?_) ?_
      · simp [zipD_len]
      · simp [zipD_len]
        exact hp.1
      · trivial
      · rw [zipD_self, List.map_map, List.getElem?_map] at hy
        obtain ⟨a, ha, rfl⟩ := Option.map_eq_some_iff.mp hy
        rw [List.getElem?_map, ha] at hd
        cases hd
        refine gd_tp (ds := [a, a]) rfl (by simp) rfl rfl ?_
        intro s H C cl fp
        refine g.inB [("_law_one", 2), ("_law_two", 3)] ["_law_same"] (by decide +kernel) (by decide +kernel) fun nb gb => ?_
        obtain ⟨_, _, _⟩ := nb
        show WE _ _ ⟨[_, _, _, _], _⟩ _
        obtain ⟨h_same, _⟩ := gb
        have cs := g.bcf h_same (hrec n (Nat.lt_succ_self n))
        repeat walk_at "d"
        exact ⟨_, _, rfl, ⟨a, rfl, hp.2 a (List.mem_of_getElem? ha), rfl⟩, rfl, rfl, rfl⟩
      · repeat walk_at "d"
        refine cd_all (bs := ds.map fun _ => true) (by rw [← bls_map, List.map_map]; rfl) ?_ g.calm
        have e : (ds.map fun _ => true).all _root_.id = true := by simp
        rw [e]
        repeat walk_at "d"
        exact fin_sh rfl hq
theorem fn_same {f : Addr} {fd : FuncData} (F : Fun K "_law_same" "_law_same" s_same f fd) (hm : mg "_law_same" = some (.ref f)) (hb : Binds K fd p_same []) (B : Bare mg)  : ∀ n : Nat, Df P w K mg base "_law_same" (n + 1) p_same (PureR (sameF n)) := by
  intro n
  induction n using Nat.strongRecOn with
  | ind n ih => exact ⟨f, fd, step_same F B  n ih, hm, F.kp, hb⟩
end

/-! ### data that may be no term -/
def ar (s : Str) : Option Nat := if s = "0" then some 0 else if s = "s" then some 1 else if s = "f" then some 2 else none
def arOk : List PyData → Bool
  | .str s :: ds => decide (ar s = some ds.length)
  | _ => false
mutual
def isT : PyData → Bool
  | .int n => decide (0 ≤ n) && decide (n ≤ 99)
  | .tuple ds => arOk ds && isTl ds
  | _ => false
def isTl : List PyData → Bool
  | [] => true
  | _ :: ds => isTs ds
def isTs : List PyData → Bool
  | [] => true
  | d :: ds => isT d && isTs ds
end
mutual
def nodes : PyData → Nat
  | .list ds => nodesL ds + 1
  | .tuple ds => nodesL ds + 1
  | _ => 1
def nodesL : List PyData → Nat
  | [] => 0
  | d :: ds => nodes d + nodesL ds
end
theorem isTs_all : ∀ ds : List PyData, isTs ds = ds.all isT
  | [] => rfl
  | d :: ds => by
    show (isT d && isTs ds) = _
    rw [isTs_all ds]
    rfl
theorem isT_tup (s : Str) (ds : List PyData) : isT (.tuple (.str s :: ds)) = (decide (ar s = some ds.length) && ds.all isT) := by
  simp only [isT, arOk, isTl, isTs_all]
theorem nodesL_sum : ∀ ds : List PyData, nodesL ds = (ds.map nodes).sum
  | [] => by simp [nodesL]
  | d :: ds => by simp [nodesL, nodesL_sum ds]
theorem nodes_pos : ∀ d : PyData, 1 ≤ nodes d
  | .none => by simp [nodes]
  | .bool _ => by simp [nodes]
  | .int _ => by simp [nodes]
  | .str _ => by simp [nodes]
  | .list _ => by simp [nodes]
  | .tuple _ => by simp [nodes]
  | .dict _ => by simp [nodes]
theorem nodesL_len (ds : List PyData) : ds.length ≤ nodesL ds := by
  induction ds with
  | nil => simp [nodesL]
  | cons d ds ih =>
    have := nodes_pos d
    simp only [nodesL, List.length_cons]
    omega
theorem nodesL_mem {ds : List PyData} {d : PyData} (h : d ∈ ds) : nodes d ≤ nodesL ds := by
  induction ds with
  | nil => cases h
  | cons e ds ih =>
    simp only [nodesL]
    rcases List.mem_cons.mp h with rfl | h
    · omega
    · have := ih h
      omega
theorem nodesL_app (as bs : List PyData) : nodesL (as ++ bs) = nodesL as + nodesL bs := by
  rw [nodesL_sum, nodesL_sum, nodesL_sum, List.map_append, List.sum_append]
/-- a text of plain signs -/
def asc (s : Str) : Bool := s.cps.toList.all fun c => decide (c < 128)
theorem asc_ok {s : Str} (h : asc s = true) : PyData.strOk s = true := by
  unfold PyData.strOk
  rw [Array.all_eq_true']
  intro c hc
  have := List.all_eq_true.mp h c (Array.mem_toList_iff.mpr hc)
  have := of_decide_eq_true this
  have h2 : c < 0x110000 := by omega
  simpa using h2
/-- plain data of a depth: ints, texts that repr can show -/
def Gn : Nat → PyData → Prop
  | _, .none => True
  | _, .bool _ => True
  | _, .int i => i.natAbs < 1000000
  | _, .str s => asc s = true ∧ s.length ≤ 40
  | n + 1, .list ds => ∀ d ∈ ds, Gn n d
  | n + 1, .tuple ds => ∀ d ∈ ds, Gn n d
  | _, _ => False
theorem Gn.mono : ∀ {n m : Nat} {d : PyData}, Gn n d → n ≤ m → Gn m d
  | _, _, .none, _, _ => by simp [Gn]
  | _, _, .bool _, _, _ => by simp [Gn]
  | _, _, .int _, h, _ => by simpa [Gn] using h
  | _, _, .str _, h, _ => by simpa [Gn] using h
  | 0, _, .list _, h, _ => h.elim
  | 0, _, .tuple _, h, _ => h.elim
  | 0, _, .dict _, h, _ => h.elim
  | n + 1, 0, _, _, hm => absurd hm (by omega)
  | n + 1, m + 1, .list ds, h, hm => fun d hd => Gn.mono (h d hd) (by omega)
  | n + 1, m + 1, .tuple ds, h, hm => fun d hd => Gn.mono (h d hd) (by omega)
  | n + 1, m + 1, .dict _, h, _ => h.elim
theorem Tm.isT_d : ∀ t : Tm, (∀ x ∈ t.vs, 0 ≤ x ∧ x ≤ 99) → isT t.d = true
  | .v n, h => by
    have := h n (by simp [Tm.vs])
    simp [Tm.d, isT, this]
  | .z, _ => by decide +kernel
  | .s t, h => by
    show isT (.tuple [.str "s", t.d]) = true
    rw [isT_tup]
    simp [Tm.isT_d t h, ar]
    decide +kernel
  | .f t u, h => by
    show isT (.tuple [.str "f", t.d, u.d]) = true
    rw [isT_tup]
    have h1 := Tm.isT_d t fun x hx => h x (List.mem_append_left _ hx)
    have h2 := Tm.isT_d u fun x hx => h x (List.mem_append_right _ hx)
    simp [h1, h2, ar]
    decide +kernel
theorem ar_cases {s : Str} {n : Nat} (h : ar s = some n) : (s = "0" ∧ n = 0) ∨ (s = "s" ∧ n = 1) ∨ (s = "f" ∧ n = 2) := by
  unfold ar at h
  split at h
  · rename_i e
    exact .inl ⟨e, (Option.some.inj h).symm⟩
  · split at h
    · rename_i e
      exact .inr (.inl ⟨e, (Option.some.inj h).symm⟩)
    · split at h
      · rename_i e
        exact .inr (.inr ⟨e, (Option.some.inj h).symm⟩)
      · cases h
/-- a term stands there -/
theorem tm_of : ∀ (n : Nat) (d : PyData), Gn n d → isT d = true → ∃ t : Tm, d = t.d ∧ t.sz ≤ nodes d ∧ t.dp ≤ n ∧ ∀ x ∈ t.vs, 0 ≤ x ∧ x ≤ 99
  | n, .int i, h, ht => ⟨.v i, rfl, by simp [Tm.sz, nodes], Nat.zero_le _, fun x hx => by
      rw [List.mem_singleton.mp hx]
      simpa [isT] using ht⟩
  | n + 1, .tuple (.str s :: ds), h, ht => by
    rw [isT_tup, Bool.and_eq_true, decide_eq_true_eq] at ht
    have hd : ∀ d ∈ ds, Gn n d := fun d hd => h d (List.mem_cons_of_mem _ hd)
    have hT : ∀ d ∈ ds, isT d = true := List.all_eq_true.mp ht.2
    rcases ar_cases ht.1 with ⟨rfl, hl⟩ | ⟨rfl, hl⟩ | ⟨rfl, hl⟩
    · have e : ds = [] := List.length_eq_zero_iff.mp hl
      subst e
      exact ⟨.z, rfl, by simp [Tm.sz, nodes], Nat.zero_le _, fun x hx => by cases hx⟩
    · obtain ⟨d, rfl⟩ := List.length_eq_one_iff.mp hl
      obtain ⟨t, e, h1, h3, h2⟩ := tm_of n d (hd d (by simp)) (hT d (by simp))
      refine ⟨.s t, by rw [e]; rfl, ?_, Nat.succ_le_succ h3, h2⟩
      simp [Tm.sz, nodes, nodesL]
      omega
    · match ds, hl, hd, hT with
      | [d, e], _, hd, hT =>
        obtain ⟨t, e1, h1, h5, h2⟩ := tm_of n d (hd d (by simp)) (hT d (by simp))
        obtain ⟨u, e2, h3, h6, h4⟩ := tm_of n e (hd e (by simp)) (hT e (by simp))
        refine ⟨.f t u, by rw [e1, e2]; rfl, ?_, ?_, fun x hx => ?_⟩
        · simp [Tm.sz, nodes, nodesL]
          omega
        · show max t.dp u.dp + 1 ≤ n + 1
          omega
        · rcases List.mem_append.mp hx with hx | hx
          · exact h2 x hx
          · exact h4 x hx
  | _, .none, _, ht => by simp [isT] at ht
  | _, .bool _, _, ht => by simp [isT] at ht
  | _, .str _, _, ht => by simp [isT] at ht
  | _, .list _, _, ht => by simp [isT] at ht
  | _, .dict _, _, ht => by simp [isT] at ht
  | 0, .tuple _, h, _ => h.elim
  | _ + 1, .tuple [], _, ht => by simp [isT, arOk] at ht
  | _ + 1, .tuple (.none :: _), _, ht => by simp [isT, arOk] at ht
  | _ + 1, .tuple (.bool _ :: _), _, ht => by simp [isT, arOk] at ht
  | _ + 1, .tuple (.int _ :: _), _, ht => by simp [isT, arOk] at ht
  | _ + 1, .tuple (.list _ :: _), _, ht => by simp [isT, arOk] at ht
  | _ + 1, .tuple (.tuple _ :: _), _, ht => by simp [isT, arOk] at ht
  | _ + 1, .tuple (.dict _ :: _), _, ht => by simp [isT, arOk] at ht
theorem nodup_sub : ∀ {l m : List Int}, l.Nodup → (∀ x ∈ l, x ∈ m) → l.length ≤ m.length
  | [], _, _, _ => Nat.zero_le _
  | a :: l, m, hn, hs => by
    rw [List.nodup_cons] at hn
    have ha := hs a List.mem_cons_self
    have h1 := nodup_sub (m := m.erase a) hn.2 fun x hx => by
      have hne : x ≠ a := fun e => by
        subst e
        exact hn.1 hx
      exact (List.mem_erase_of_ne hne).mpr (hs x (List.mem_cons_of_mem _ hx))
    have h2 := List.length_erase_of_mem ha
    have h3 := List.length_pos_of_mem ha
    rw [List.length_cons]
    omega
theorem usort_few {l m : List Int} (h : ∀ x ∈ l, x ∈ m) : (usort l).length ≤ m.length := nodup_sub (usort_nodup l) fun x hx => h x ((usort_mem x l).mp hx)
theorem Gn.pd : ∀ {n : Nat} {d : PyData}, Gn n d → nodes d ≤ 100000 → Pd n d
  | _, .none, _, _ => by simp [Pd]
  | _, .bool _, _, _ => by simp [Pd]
  | _, .int _, _, _ => by simp [Pd]
  | _, .str _, _, _ => by simp [Pd]
  | 0, .list _, h, _ => h.elim
  | 0, .tuple _, h, _ => h.elim
  | 0, .dict _, h, _ => h.elim
  | n + 1, .dict _, h, _ => h.elim
  | n + 1, .list ds, h, hz => by
    simp only [nodes] at hz
    exact ⟨by have := nodesL_len ds; omega, fun d hd => Gn.pd (h d hd) (by have := nodesL_mem hd; omega)⟩
  | n + 1, .tuple ds, h, hz => by
    simp only [nodes] at hz
    exact ⟨by have := nodesL_len ds; omega, fun d hd => Gn.pd (h d hd) (by have := nodesL_mem hd; omega)⟩
theorem depthAll_le {n : Nat} : ∀ ds : List PyData, (∀ d ∈ ds, d.depth ≤ n) → PyData.depthAll ds ≤ n
  | [], _ => by simp [PyData.depthAll]
  | d :: ds, h => by
    simp only [PyData.depthAll]
    have h1 := h d List.mem_cons_self
    have h2 := depthAll_le ds fun e he => h e (List.mem_cons_of_mem _ he)
    omega
theorem canLayAll_of : ∀ ds : List PyData, (∀ d ∈ ds, d.canLay0 = true) → PyData.canLayAll0 ds = true
  | [], _ => by simp [PyData.canLayAll0]
  | d :: ds, h => by
    simp only [PyData.canLayAll0, h d List.mem_cons_self, canLayAll_of ds fun e he => h e (List.mem_cons_of_mem _ he), Bool.and_self]
theorem Gn.lay : ∀ {n : Nat} {d : PyData}, Gn n d → d.canLay0 = true ∧ d.depth ≤ n
  | _, .none, _ => by simp [PyData.canLay0, PyData.depth]
  | _, .bool _, _ => by simp [PyData.canLay0, PyData.depth]
  | _, .int _, _ => by simp [PyData.canLay0, PyData.depth]
  | _, .str s, h => by
    have h : asc s = true ∧ s.length ≤ 40 := by simpa only [Gn] using h
    simp only [PyData.canLay0, PyData.depth]
    exact ⟨asc_ok h.1, Nat.zero_le _⟩
  | 0, .list _, h => h.elim
  | 0, .tuple _, h => h.elim
  | 0, .dict _, h => h.elim
  | n + 1, .dict _, h => h.elim
  | n + 1, .list ds, h => by
    simp only [PyData.canLay0, PyData.depth]
    exact ⟨canLayAll_of ds fun d hd => (Gn.lay (h d hd)).1, Nat.succ_le_succ (depthAll_le ds fun d hd => (Gn.lay (h d hd)).2)⟩
  | n + 1, .tuple ds, h => by
    simp only [PyData.canLay0, PyData.depth]
    exact ⟨canLayAll_of ds fun d hd => (Gn.lay (h d hd)).1, Nat.succ_le_succ (depthAll_le ds fun d hd => (Gn.lay (h d hd)).2)⟩
theorem Gn.shaped {n : Nat} {d : PyData} (h : Gn n d) (hn : n ≤ 64) : SeqAt.shaped d = true := by
  have := Gn.lay h
  unfold SeqAt.shaped
  rw [this.1, Bool.true_and, decide_eq_true_eq]
  omega
theorem reprText_short {s : Str} (h : PyData.strOk s = true) (hl : s.length ≤ 40) : (reprText s).length ≤ 402 := by
  have := PySem.StrLaws.reprText_len s fun c hc => by
    unfold PyData.strOk at h
    rw [Array.all_eq_true'] at h
    have := h c (Array.mem_toList_iff.mp hc)
    have h2 : c < 0x110000 := by simpa using this
    exact Nat.lt_trans h2 (by decide)
  omega
theorem shownAll_sum : ∀ ds : List PyData, (∀ d ∈ ds, d.shown.length + 2 ≤ 410 * nodes d) → ((PyData.shownAll ds).map (·.length)).sum + 2 * (PyData.shownAll ds).length ≤ 410 * nodesL ds
  | [], _ => by simp [PyData.shownAll, nodesL]
  | d :: ds, h => by
    have h1 := h d List.mem_cons_self
    have h2 := shownAll_sum ds fun e he => h e (List.mem_cons_of_mem _ he)
    simp only [PyData.shownAll, List.map_cons, List.sum_cons, List.length_cons, nodesL]
    omega
theorem Gn.short : ∀ {n : Nat} {d : PyData}, Gn n d → d.shown.length + 2 ≤ 410 * nodes d
  | _, .none, _ => by
    simp only [PyData.shown, nodes]
    decide
  | _, .bool b, _ => by
    simp only [PyData.shown, nodes]
    cases b <;> decide
  | _, .int i, h => by
    have h1 : i.natAbs < 1000000 := by simpa [Gn] using h
    have h2 := PyData.shown_int_le (i := i) (Nat.lt_trans h1 (by decide))
    simp only [nodes]
    omega
  | _, .str s, h => by
    have h : asc s = true ∧ s.length ≤ 40 := by simpa only [Gn] using h
    have h1 := reprText_short (asc_ok h.1) h.2
    simp only [PyData.shown, nodes]
    omega
  | 0, .list _, h => h.elim
  | 0, .tuple _, h => h.elim
  | 0, .dict _, h => h.elim
  | n + 1, .dict _, h => h.elim
  | n + 1, .list ds, h => by
    simp only [PyData.shown, nodes]
    have h1 := listText_len_le (PyData.shownAll ds)
    have h2 := shownAll_sum ds fun d hd => Gn.short (h d hd)
    omega
  | n + 1, .tuple ds, h => by
    simp only [PyData.shown, nodes]
    have h1 := tupleText_len_le (PyData.shownAll ds)
    have h2 := shownAll_sum ds fun d hd => Gn.short (h d hd)
    omega
theorem showableAll_of : ∀ ds : List PyData, (∀ d ∈ ds, d.showable = true) → PyData.showableAll ds = true
  | [], _ => by simp [PyData.showableAll]
  | d :: ds, h => by
    simp only [PyData.showableAll, h d List.mem_cons_self, showableAll_of ds fun e he => h e (List.mem_cons_of_mem _ he), Bool.and_self]
theorem Gn.showable : ∀ {n : Nat} {d : PyData}, Gn n d → d.showable = true
  | _, .none, _ => by simp [PyData.showable]
  | _, .bool _, _ => by simp [PyData.showable]
  | _, .int i, h => by
    have h1 : i.natAbs < 1000000 := by simpa [Gn] using h
    simp only [PyData.showable, decide_eq_true_eq]
    by_cases h0 : i.natAbs = 0
    · rw [h0]
      decide
    · exact (Nat.log2_lt h0).mpr (Nat.lt_trans h1 (Nat.lt_of_lt_of_le (show 1000000 < 2 ^ 20 by decide) (Nat.pow_le_pow_right (by decide) (by decide))))
  | _, .str s, _ => by simp [PyData.showable]
  | 0, .list _, h => h.elim
  | 0, .tuple _, h => h.elim
  | 0, .dict _, h => h.elim
  | n + 1, .dict _, h => h.elim
  | n + 1, .list ds, h => by
    simp only [PyData.showable]
    exact showableAll_of ds fun d hd => Gn.showable (h d hd)
  | n + 1, .tuple ds, h => by
    simp only [PyData.showable]
    exact showableAll_of ds fun d hd => Gn.showable (h d hd)
theorem Gn.shw {n : Nat} {d : PyData} (h : Gn n d) (hn : n ≤ 64) (hz : nodes d ≤ 30000) : Shw d := by
  refine ⟨Gn.showable h, ?_, PyData.hasDict_of_canLay _ (Gn.lay h).1, ?_⟩
  · have := Gn.short h
    rw [sizeLine_eq]
    omega
  · have := (Gn.lay h).2
    omega
theorem Tm.nodes_d : ∀ t : Tm, nodes t.d ≤ 2 * t.sz
  | .v _ => by simp [Tm.d, nodes, Tm.sz]
  | .z => by simp [Tm.d, nodes, nodesL, Tm.sz]
  | .s t => by
    have := Tm.nodes_d t
    simp only [Tm.d, nodes, nodesL, Tm.sz]
    omega
  | .f t u => by
    have := Tm.nodes_d t
    have := Tm.nodes_d u
    simp only [Tm.d, nodes, nodesL, Tm.sz]
    omega
theorem gn_s0 (n : Nat) : Gn n (.str "0") := by
  simp only [Gn]
  decide +kernel
theorem gn_ss (n : Nat) : Gn n (.str "s") := by
  simp only [Gn]
  decide +kernel
theorem gn_sf (n : Nat) : Gn n (.str "f") := by
  simp only [Gn]
  decide +kernel
theorem Tm.gn_d : ∀ t : Tm, (∀ x ∈ t.vs, 0 ≤ x ∧ x ≤ 99) → Gn (t.dp + 1) t.d
  | .v n, h => by
    have := h n (by simp [Tm.vs])
    simp only [Tm.d, Gn]
    omega
  | .z, _ => fun d hd => by
    rw [List.mem_singleton.mp hd]
    exact gn_s0 _
  | .s t, h => fun d hd => by
    simp only [List.mem_cons, List.not_mem_nil, or_false] at hd
    rcases hd with rfl | rfl
    · exact gn_ss _
    · exact Tm.gn_d t h
  | .f t u, h => fun d hd => by
    have h1 := Tm.gn_d t fun x hx => h x (List.mem_append_left _ hx)
    have h2 := Tm.gn_d u fun x hx => h x (List.mem_append_right _ hx)
    simp only [List.mem_cons, List.not_mem_nil, or_false] at hd
    rcases hd with rfl | rfl | rfl
    · exact gn_sf _
    · exact h1.mono (by show t.dp + 1 ≤ max t.dp u.dp + 1; omega)
    · exact h2.mono (by show u.dp + 1 ≤ max t.dp u.dp + 1; omega)
theorem gn_str {s : Str} (n : Nat) (h : ∀ c ∈ s.cps.toList, c < 128) (hl : s.length ≤ 12) : Gn n (.str s) := by
  simp only [Gn]
  exact ⟨List.all_eq_true.mpr fun c hc => decide_eq_true (h c hc), by omega⟩

/-! ### terms, atoms, sayings compared -/
theorem eqv_int (a b : Int) : PyData.eqv (.int a) (.int b) = decide (a = b) := by
  simp only [PyData.eqv]
  rfl
theorem eqv_tup (as bs : List PyData) : PyData.eqv (.tuple as) (.tuple bs) = PyData.eqvAll as bs := by simp only [PyData.eqv]
theorem eqvAll_cons (a b : PyData) (as bs : List PyData) : PyData.eqvAll (a :: as) (b :: bs) = (PyData.eqv a b && PyData.eqvAll as bs) := by simp only [PyData.eqvAll]
theorem eqv_str (a b : Str) : PyData.eqv (.str a) (.str b) = decide (a = b) := by
  simp only [PyData.eqv]
  exact Bool.beq_eq_decide_eq a b
theorem s0s : ("0" : Str) ≠ "s" := by decide +kernel
theorem s0f : ("0" : Str) ≠ "f" := by decide +kernel
theorem ssf : ("s" : Str) ≠ "f" := by decide +kernel
theorem Tm.eqv : ∀ t u : Tm, PyData.eqv t.d u.d = decide (t = u)
  | .v a, .v b => by
    show PyData.eqv (.int a) (.int b) = _
    rw [eqv_int]
    simp
  | .v a, .z => by simp [Tm.d, PyData.eqv]
  | .v a, .s u => by simp [Tm.d, PyData.eqv]
  | .v a, .f u x => by simp [Tm.d, PyData.eqv]
  | .z, .v a => by simp [Tm.d, PyData.eqv]
  | .s u, .v a => by simp [Tm.d, PyData.eqv]
  | .f u x, .v a => by simp [Tm.d, PyData.eqv]
  | .z, .z => by decide +kernel
  | .z, .s u => by
    show PyData.eqv (.tuple [.str "0"]) (.tuple [.str "s", u.d]) = _
    rw [eqv_tup, eqvAll_cons, eqv_str, decide_eq_false s0s]
    simp
  | .z, .f u x => by
    show PyData.eqv (.tuple [.str "0"]) (.tuple [.str "f", u.d, x.d]) = _
    rw [eqv_tup, eqvAll_cons, eqv_str, decide_eq_false s0f]
    simp
  | .s u, .z => by
    show PyData.eqv (.tuple [.str "s", u.d]) (.tuple [.str "0"]) = _
    rw [eqv_tup, eqvAll_cons, eqv_str, decide_eq_false (fun e => s0s e.symm)]
    simp
  | .f u x, .z => by
    show PyData.eqv (.tuple [.str "f", u.d, x.d]) (.tuple [.str "0"]) = _
    rw [eqv_tup, eqvAll_cons, eqv_str, decide_eq_false (fun e => s0f e.symm)]
    simp
  | .s t, .s u => by
    show PyData.eqv (.tuple [.str "s", t.d]) (.tuple [.str "s", u.d]) = _
    rw [eqv_tup, eqvAll_cons, eqvAll_cons, eqv_str, Tm.eqv t u, decide_eq_true rfl]
    simp [PyData.eqvAll]
  | .s t, .f u x => by
    show PyData.eqv (.tuple [.str "s", t.d]) (.tuple [.str "f", u.d, x.d]) = _
    rw [eqv_tup, eqvAll_cons, eqv_str, decide_eq_false ssf]
    simp
  | .f u x, .s t => by
    show PyData.eqv (.tuple [.str "f", u.d, x.d]) (.tuple [.str "s", t.d]) = _
    rw [eqv_tup, eqvAll_cons, eqv_str, decide_eq_false (fun e => ssf e.symm)]
    simp
  | .f t1 t2, .f u x => by
    show PyData.eqv (.tuple [.str "f", t1.d, t2.d]) (.tuple [.str "f", u.d, x.d]) = _
    rw [eqv_tup, eqvAll_cons, eqvAll_cons, eqvAll_cons, eqv_str, Tm.eqv t1 u, Tm.eqv t2 x, decide_eq_true rfl]
    simp [PyData.eqvAll]
theorem Tm.eqvAll : ∀ as bs : List Tm, PyData.eqvAll (as.map Tm.d) (bs.map Tm.d) = decide (as = bs)
  | [], [] => by simp [PyData.eqvAll]
  | [], b :: bs => by simp [PyData.eqvAll]
  | a :: as, [] => by simp [PyData.eqvAll]
  | a :: as, b :: bs => by
    rw [List.map_cons, List.map_cons, eqvAll_cons, Tm.eqv, Tm.eqvAll as bs]
    simp

/-! ### lists of ints -/
theorem ints_empty (cs : List Int) : PyData.eqv (.list (cs.map .int)) (.list []) = cs.isEmpty := by
  cases cs with
  | nil => decide +kernel
  | cons a l => simp [PyData.eqv, PyData.eqvAll]
theorem ints_sh (cs : List Int) : SeqAt.shaped (.list (cs.map .int)) = true := by
  have h1 : PyData.canLayAll0 (cs.map .int) = true := canLayAll_of _ fun d hd => by
    obtain ⟨m, _, rfl⟩ := List.mem_map.mp hd
    simp [PyData.canLay0]
  have h2 : PyData.depthAll (cs.map .int) ≤ 0 := depthAll_le _ fun d hd => by
    obtain ⟨m, _, rfl⟩ := List.mem_map.mp hd
    simp [PyData.depth]
  unfold SeqAt.shaped
  rw [Bool.and_eq_true, decide_eq_true_eq]
  exact ⟨by simp only [PyData.canLay0]; exact h1, by simp only [PyData.depth]; omega⟩
theorem atI_sh {cs : List Int} {i : Nat} (h : i < cs.length) : atI (cs.map fun n => Sl.sh (.int n)) (i : Int) = some (.sh (.int cs[i])) := atI_nat (by rw [List.getElem?_map, List.getElem?_eq_getElem h]; rfl)
theorem room_in {k : Nat} {A : Around} (r : RoomG k A) : A.units + 65 < cLine := by
  have := r.r.un
  omega

/-! ### is_variable, parts_of, is_term -/
def isV : PyData → Bool
  | .int n => decide (0 ≤ n) && decide (n ≤ 99)
  | _ => false
def isVF : List PyData → PyData → Prop := fun ds r => ∃ d n, ds = [d] ∧ Gn n d ∧ r = .bool (isV d)
def arI (s : Str) : Option Int := (ar s).map fun n => (n : Int)
def parts : PyData → PyData
  | .tuple (.str s :: ds) => if ar s = some ds.length then .list ds else .none
  | _ => .none
def partsF : List PyData → PyData → Prop := fun ds r => ∃ d n, ds = [d] ∧ Gn n d ∧ nodes d ≤ 15000 ∧ r = parts d
theorem ar_len (s : Str) (n : Nat) : ((n : Int) = (arI s).getD (-1)) ↔ ar s = some n := by
  unfold arI
  cases e : ar s with
  | none =>
    simp <;> omega
  | some m =>
    simp <;> omega
theorem isT_isV {d : PyData} (h : isV d = true) : isT d = true := by
  cases d <;> simp [isV, isT] at h ⊢
  exact h
/-- what is no variable -/
theorem isT_parts {n : Nat} {d : PyData} (hg : Gn n d) (h : isV d = false) : (parts d = .none ∧ isT d = false) ∨ ∃ ps, parts d = .list ps ∧ isT d = ps.all isT ∧ nodesL ps < nodes d ∧ ∀ e ∈ ps, ∃ m, Gn m e := by
  cases d with
  | none => exact .inl ⟨rfl, by simp [isT]⟩
  | bool _ => exact .inl ⟨rfl, by simp [isT]⟩
  | str _ => exact .inl ⟨rfl, by simp [isT]⟩
  | list _ => exact .inl ⟨rfl, by simp [isT]⟩
  | dict _ => exact .inl ⟨rfl, by simp [isT]⟩
  | int i => exact .inl ⟨rfl, by simpa [isV, isT] using h⟩
  | tuple ds =>
    cases ds with
    | nil => exact .inl ⟨rfl, by simp [isT, arOk]⟩
    | cons e ds =>
      cases e with
      | str s =>
        by_cases ha : ar s = some ds.length
        · refine .inr ⟨ds, if_pos ha, ?_, ?_, fun e he => ?_⟩
          · rw [isT_tup, ha, decide_eq_true rfl, Bool.true_and]
          · simp only [nodes, nodesL]
            omega
          · cases n with
            | zero => exact hg.elim
            | succ n => exact ⟨n, hg e (List.mem_cons_of_mem _ he)⟩
        · refine .inl ⟨if_neg ha, ?_⟩
          rw [isT_tup, decide_eq_false ha, Bool.false_and]
      | none => exact .inl ⟨rfl, by simp [isT, arOk]⟩
      | bool _ => exact .inl ⟨rfl, by simp [isT, arOk]⟩
      | int _ => exact .inl ⟨rfl, by simp [isT, arOk]⟩
      | list _ => exact .inl ⟨rfl, by simp [isT, arOk]⟩
      | tuple _ => exact .inl ⟨rfl, by simp [isT, arOk]⟩
      | dict _ => exact .inl ⟨rfl, by simp [isT, arOk]⟩
def isTF : List PyData → PyData → Prop := fun ds r => ∃ d n, ds = [d] ∧ Gn n d ∧ nodes d ≤ 15000 ∧ r = .bool (isT d)
section
variable {P : Program} {w : World} {K : PySem.W.Frag} {mg : Str → Option Value} {base : Heap}
theorem fn_is_variable {f : Addr} {fd : FuncData} (F : Fun K "is_variable" "is_variable" s_is_variable f fd) (B : Bare mg) (I_MOST_VARIABLE : ∃ t, mg "MOST_VARIABLE" = some (.int 99 t)) : FnG P w K mg base CX0 (1) f fd p_is_variable (spD K p_is_variable.length (PureR isVF)) := by
  refine fn_okN F sc_is_variable nm_is_variable ns_is_variable gn_is_variable (fun X g nm ns gn xs om Qd hl hR => ?_)
  have hr := g.room
  obtain ⟨_, _⟩ := nm
  obtain ⟨n_thing, _⟩ := ns
  obtain ⟨g_isinstance, g_int, g_bool, g_MOST_VARIABLE, _⟩ := gn
  have b_isinstance := g.bi g_isinstance B.isi PyProof.Rows.boot_isinstance
  have b_int := g.bt g_int B.int PyProof.Rows.boot_int
  have b_bool := g.bt g_bool B.bool PyProof.Rows.boot_bool
  obtain ⟨t, hM⟩ := I_MOST_VARIABLE
  rw [← g.mg] at hM
  obtain ⟨ds, r, rfl, rfl, ⟨d, n, rfl, hd, rfl⟩, hq⟩ := hR
  show WS _ _ ⟨[.sh d], []⟩ _
  cases d with
  | dict _ => cases n <;> exact hd.elim
  | int i =>
    repeat walk_at "e"
    refine we_chain ?_
    repeat walk_at "e"
    refine ⟨_, rfl, fun h => ?_, fun h => ?_⟩
    · repeat walk_at "e"
      refine fin_sh rfl ?_
      have e : isV (.int i) = decide (i ≤ 99) := by
        show (decide (0 ≤ i) && decide (i ≤ 99)) = _
        rw [h, Bool.true_and]
      rw [← e]
      exact hq
    · repeat walk_at "e"
      refine fin_sh rfl ?_
      have e : isV (.int i) = false := by
        show (decide (0 ≤ i) && decide (i ≤ 99)) = _
        rw [h, Bool.false_and]
      rw [← e]
      exact hq
  | none =>
    repeat walk_at "e"
    exact fin_sh rfl hq
  | bool b =>
    repeat walk_at "e"
    exact fin_sh rfl hq
  | str s =>
    repeat walk_at "e"
    exact fin_sh rfl hq
  | list ds =>
    repeat walk_at "e"
    exact fin_sh rfl hq
  | tuple ds =>
    repeat walk_at "e"
    exact fin_sh rfl hq
theorem fn_parts_of {f : Addr} {fd : FuncData} (F : Fun K "parts_of" "parts_of" s_parts_of f fd) (B : Bare mg) (T_PARTS : TabG K w mg "PARTS" arI) : FnG P w K mg base CX0 (1) f fd p_parts_of (spD K p_parts_of.length (PureR partsF)) := by
  refine fn_okN F sc_parts_of nm_parts_of ns_parts_of gn_parts_of (fun X g nm ns gn xs om Qd hl hR => ?_)
  have hr := g.room
  obtain ⟨_, _, _, _⟩ := nm
  obtain ⟨n_thing, n_sign, n_parts, _⟩ := ns
  obtain ⟨g_isinstance, g_tuple, g_len, g_str, g_PARTS, _⟩ := gn
  have b_isinstance := g.bi g_isinstance B.isi PyProof.Rows.boot_isinstance
  have b_tuple := g.bt g_tuple B.tup PyProof.Rows.boot_tuple
  have b_len := g.bi g_len B.len PySem.boot_len
  have b_str := g.bt g_str B.str PyProof.Rows.boot_str
  have T5 := tab_here g T_PARTS
  obtain ⟨ds, r, rfl, rfl, ⟨d, n, rfl, hd, hz, rfl⟩, hq⟩ := hR
  show WS _ _ ⟨[.sh d, .no, .no], []⟩ _
  cases d with
  | dict _ => cases n <;> exact hd.elim
  | tuple ds =>
    cases ds with
    | nil =>
      repeat walk_at "e"
      exact fin_sh rfl hq
    | cons d ds =>
      repeat walk_at "e"
      refine id_T (atI_nat (j := 0) rfl) ?_
      cases d with
      | dict _ =>
        cases n with
        | zero => exact hd.elim
        | succ n =>
          have := hd _ List.mem_cons_self
          cases n <;> exact this.elim
      | str s =>
        repeat walk_at "e"
        refine w1_asgT (vs := [1, 2]) (pg_star g.calm (pgs_cons (pgN n_sign) (pgs_cons (pgN n_parts) pgs_nil))) ?_ rfl rfl rfl
        repeat walk_at "e"
        refine gd_starF (i := 1) (j := 2) rfl (by simp) (by simp) ?_ ?_
        · simp only [nodes, nodesL] at hz
          have := nodesL_len ds
          omega
        refine seq_nx ?_
        show WS _ _ ⟨[.sh (.tuple (.str s :: ds)), .sh (.str s), .sh (.list ds)], []⟩ _
        repeat walk_at "e"
        refine we_kget T5 g_PARTS ⟨rfl, rfl, rfl, rfl⟩ ?_
        repeat walk_at "e"
        refine ⟨_, _, rfl, rfl, ?_⟩
        repeat walk_at "e"
        refine ⟨fun h => ?_, fun h => ?_⟩
        · have e : parts (.tuple (.str s :: ds)) = .list ds := if_pos ((ar_len s ds.length).mp (of_decide_eq_true h))
          rw [e] at hq
          repeat walk_at "e"
          exact fin_sh rfl hq
        · have e : parts (.tuple (.str s :: ds)) = .none := if_neg fun q => of_decide_eq_false h ((ar_len s ds.length).mpr q)
          rw [e] at hq
          repeat walk_at "e"
          exact fin_sh rfl hq
      | int _ =>
        repeat walk_at "e"
        exact fin_sh rfl hq
      | none =>
        repeat walk_at "e"
        exact fin_sh rfl hq
      | bool b =>
        repeat walk_at "e"
        exact fin_sh rfl hq
      | tuple _ =>
        repeat walk_at "e"
        exact fin_sh rfl hq
      | list _ =>
        repeat walk_at "e"
        exact fin_sh rfl hq
  | int _ =>
    repeat walk_at "e"
    exact fin_sh rfl hq
  | none =>
    repeat walk_at "e"
    exact fin_sh rfl hq
  | bool b =>
    repeat walk_at "e"
    exact fin_sh rfl hq
  | str s =>
    repeat walk_at "e"
    exact fin_sh rfl hq
  | list ds =>
    repeat walk_at "e"
    exact fin_sh rfl hq
theorem fn_is_term {f : Addr} {fd : FuncData} (F : Fun K "is_term" "is_term" s_is_term f fd) (B : Bare mg) (D_is_variable : Df P w K mg base "is_variable" (1) p_is_variable (PureR isVF)) (D_parts_of : Df P w K mg base "parts_of" (1) p_parts_of (PureR partsF)) : FnG P w K mg base CX0 (2) f fd p_is_term (spD K p_is_term.length (PureR isTF)) := by
  refine fn_okN F sc_is_term nm_is_term ns_is_term gn_is_term (fun X g nm ns gn xs om Qd hl hR => ?_)
  have hr := g.room
  obtain ⟨_, _, _, _, _⟩ := nm
  obtain ⟨n_thing, n_left, n_one, n_parts, _⟩ := ns
  obtain ⟨g_len, g_is_variable, g_parts_of, _⟩ := gn
  have b_len := g.bi g_len B.len PySem.boot_len
  have c_is_variable := g.cf g_is_variable D_is_variable
  have c_parts_of := g.cf g_parts_of D_parts_of
  obtain ⟨ds, r, rfl, rfl, ⟨d, n, rfl, hd, hz, rfl⟩, hq⟩ := hR
  show WS _ _ ⟨[.sh d, .no, .no, .no], []⟩ _
  repeat walk_at "e"
  refine we_lst ?_
  repeat walk_at "e"
  refine w1_while (fun m z => ∃ (st : List PyData) (x y : Sl), z = ⟨[.sh d, .ob 0, x, y], [.lst (st.map .sh)]⟩ ∧ (∀ e ∈ st, ∃ n, Gn n e) ∧ isT d = st.all isT ∧ nodesL st = m ∧ m ≤ nodes d) (m := nodes d) ?_ ?_ g.po
  · exact ⟨[d], .no, .no, rfl, fun e he => by
      rw [List.mem_singleton.mp he]
      exact ⟨n, hd⟩, by simp, by simp [nodesL], Nat.le_refl _⟩
  · rintro m z ⟨st, x, y, rfl, hst, hT, hm, hle⟩
    repeat walk_at "e"
    refine ⟨fun h => ?_, fun h => ?_⟩
    · have hne : st ≠ [] := by
        rintro rfl
        simp at h
      obtain ⟨st', u, rfl⟩ : ∃ st' u, st = st' ++ [u] := ⟨st.dropLast, st.getLast hne, (List.dropLast_concat_getLast hne).symm⟩
      obtain ⟨nu, hu⟩ := hst u (by simp)
      rw [nodesL_app] at hm
      have hm : nodesL st' + nodes u = m := by simpa [nodesL] using hm
      rw [List.all_append] at hT
      have hT : isT d = (st'.all isT && isT u) := by simpa using hT
      rw [List.map_append]
      repeat walk_at "e"
      refine mo_pop (xs := st'.map .sh) (y := .sh u) rfl ?_
      repeat walk_at "e"
      refine ⟨_, _, rfl, ⟨u, nu, rfl, hu, rfl⟩, rfl, ?_⟩
      repeat walk_at "e"
      have hup := nodes_pos u
      cases hv : isV u with
      | true =>
        repeat walk_at "e"
        refine loop_nx ⟨nodesL st', by omega, st', _, _, rfl, fun e he => hst e (List.mem_append_left _ he), ?_, rfl, by omega⟩
        rw [hT, isT_isV hv, Bool.and_true]
      | false =>
        repeat walk_at "e"
        refine ⟨_, _, rfl, ⟨u, nu, rfl, hu, by omega, rfl⟩, rfl, ?_⟩
        rcases isT_parts hu hv with ⟨e1, e2⟩ | ⟨ps, e1, e2, e3, e4⟩
        · rw [e1]
          repeat walk_at "e"
          have e : isT d = false := by rw [hT, e2, Bool.and_false]
          rw [e] at hq
          exact fin_sh rfl hq
        · rw [e1]
          have hl1 := nodesL_len ps
          have hl2 := nodesL_len st'
          repeat walk_at "e"
          refine loop_nx ⟨nodesL (st' ++ ps), by rw [nodesL_app]; omega, st' ++ ps, _, _, by rw [List.map_append], fun e he => ?_, ?_, rfl, by rw [nodesL_app]; omega⟩
          · rcases List.mem_append.mp he with he | he
            · exact hst e (List.mem_append_left _ he)
            · exact e4 e he
          · rw [hT, e2, List.all_append]
    · have hst0 : st = [] := by
        cases st with
        | nil => rfl
        | cons a r => simp at h
      subst hst0
      repeat walk_at "e"
      refine fin_sh rfl ?_
      have e : isT d = true := by simpa using hT
      rw [← e]
      exact hq
end

/-! ### the script's numbers folded, words by draws -/
def RFold : Rl := fun xs om Q => ∃ (ns : List Int) (c : Nat), xs = [.sh (.list (ns.map .int)), .sh (.int c)] ∧ om = [] ∧ 1 ≤ c ∧ c ≤ 6 ∧ ∀ cs : List Int, 1 ≤ cs.length → cs.length ≤ c → Q (.sh (.list (cs.map .int))) []
section
variable {P : Program} {w : World} {K : PySem.W.Frag} {mg : Str → Option Value} {base : Heap}
theorem fn_folded {f : Addr} {fd : FuncData} (F : Fun K "_law_folded" "_law_folded" s_folded f fd) (B : Bare mg)  : FnG P w K mg base CX0 (1) f fd p_folded (spD K p_folded.length (RFold)) := by
  refine fn_okN F sc_folded nm_folded ns_folded gn_folded (fun X g nm ns gn xs om Qd hl hR => ?_)
  have hr := g.room
  obtain ⟨_, _, _, _, _, _⟩ := nm
  obtain ⟨n_script, n_count, n_cells, n_k, n_cell, _⟩ := ns
  obtain ⟨g_list, g_enumerate, _⟩ := gn
  have b_list := g.bt g_list B.list PyProof.Rows.boot_list
  obtain ⟨ns, c, rfl, rfl, hc1, hc6, hq⟩ := hR
  show WS _ _ ⟨[.sh (.list (ns.map .int)), .sh (.int c), .no, .no, .no], []⟩ _
  refine ws_cons ?_
  repeat walk_at "lo"
  have e1 : cutL (ns.map PyData.int) none (some (c : Int)) = (ns.take c).map .int := by
    by_cases h : c ≤ ns.length
    · rw [cut_to (by rw [List.length_map]; exact h), List.map_take]
    · unfold cutL
      rw [HT.sIx_none, HT.sIx_nat, List.drop_zero, Nat.sub_zero, List.take_of_length_le (by rw [List.length_map]; omega), List.take_of_length_le (by omega)]
  rw [e1]
  refine w1_for (g := gTup X.K 2 (gNames [3, 4])) (vs := [3, 4]) (pg_tup g.calm (pgs_cons (pgN n_k) (pgs_cons (pgN n_cell) pgs_nil))) ?_ g.calm g.po
  refine wi_enum (by rw [g.mg]; exact B.enum) ?_ g_enumerate.g
  repeat walk_at "d"
  obtain ⟨ms, hms⟩ : ∃ ms : List Int, cutL (ns.map PyData.int) (some (c : Int)) (some 63) = ms.map .int := by
    unfold cutL
    rw [← List.map_drop, ← List.map_take]
    exact ⟨_, rfl⟩
  have hml : ms.length + c ≤ 63 ∨ ms = [] := by
    have := congrArg List.length hms
    unfold cutL at this
    rw [show (some (63 : Int)) = some ((63 : Nat) : Int) from rfl, HT.sIx_nat, HT.sIx_nat, List.length_take, List.length_drop, List.length_map, List.length_map] at this
    by_cases h : ms.length = 0
    · exact .inr (List.length_eq_zero_iff.mp h)
    · exact .inl (by omega)
  have hmn : ms ≠ [] → c < ns.length := fun h => by
    have := congrArg List.length hms
    unfold cutL at this
    rw [show (some (63 : Int)) = some ((63 : Nat) : Int) from rfl, HT.sIx_nat, HT.sIx_nat, List.length_take, List.length_drop, List.length_map, List.length_map] at this
    have : ms.length ≠ 0 := fun e => h (List.length_eq_zero_iff.mp e)
    omega
  rw [hms]
  refine ⟨_, rfl, ?_⟩
  refine ⟨fun i z => ∃ (x_k x_cell : Sl) (cs : List Int), z = ⟨[.sh (.list (ns.map .int)), .sh (.int c), .ob 0, x_k, x_cell], [.lst (cs.map fun n => .sh (.int n))]⟩ ∧ cs.length = (ns.take c).length, ?_, ?_, ?_, ?_⟩
  · exact ⟨_, _, ns.take c, by rw [List.map_map]; rfl, rfl⟩
  · exact fun _ _ _ _ => trivial
  · rintro i y z hy ⟨x_k, x_cell, cs, rfl, hcl⟩
    rw [List.getElem?_map] at hy
    obtain ⟨q, hq1, rfl⟩ := Option.map_eq_some_iff.mp hy
    obtain ⟨d, hd, rfl⟩ := enumD_get hq1
    rw [List.getElem?_map] at hd
    obtain ⟨m, hm, rfl⟩ := Option.map_eq_some_iff.mp hd
    have him := (List.getElem?_eq_some_iff.mp hm).1
    have hne : ms ≠ [] := fun e => by
      rw [e] at him
      simp at him
    have hi63 : i < 63 := by
      rcases hml with h | h
      · omega
      · exact absurd h hne
    have hcc : cs.length = c := by
      rw [hcl, List.length_take]
      have := hmn hne
      omega
    refine gd_tp rfl (by simp) rfl rfl ?_
    have hmod : ((i : Int) % (c : Int)) = ((i % c : Nat) : Int) := by omega
    have hlt : i % c < cs.length := by
      rw [hcc]
      exact Nat.mod_lt _ (by omega)
    refine ws_cons ?_
    refine w1_setIx ?_
    repeat walk_at "d"
    refine id_O rfl (by rw [hmod]; exact atI_sh hlt) ?_
    repeat walk_at "d"
    refine ⟨0, _, _, i % c, rfl, rfl, rfl, ?_, ?_⟩
    · rw [hmod, List.length_map]
      unfold ixN
      rw [if_pos (by omega), if_pos (by omega)]
      rfl
    refine ws_nil ?_
    refine ⟨.sh (.int i), .sh (.int m), cs.set (i % c) (cs[i % c] + m * (i + 2)), ?_, ?_⟩
    · rw [List.map_set]
      rfl
    · rw [List.length_set]
      exact hcl
  · rintro z ⟨x_k, x_cell, cs, rfl, hcl⟩
    repeat walk_at "d"
    refine rd_neO (room_fit hr) rfl (ds := cs.map .int) (by rw [show (cs.map fun n => Sl.sh (.int n)) = (cs.map PyData.int).map .sh by rw [List.map_map]; rfl]; exact allSh_map _) (ints_sh cs) (ints_sh []) ?_
    rw [ints_empty]
    cases cs with
    | nil =>
      refine tru_i ⟨fun h => (by cases h), fun _ => ?_⟩
      repeat walk_at "d"
      exact fin_sh rfl (hq [0] (by simp) (by simpa using hc1))
    | cons a l =>
      refine tru_i ⟨fun _ => ?_, fun h => (by cases h)⟩
      repeat walk_at "d"
      refine fin_frz (ds := (a :: l).map .int) (Nat.le_refl _) rfl rfl (by rw [show ((a :: l).map fun n => Sl.sh (.int n)) = ((a :: l).map PyData.int).map .sh by rw [List.map_map]; rfl]; exact allSh_map _) (hq (a :: l) (by simp) ?_)
      rw [hcl, List.length_take]
      omega
end

/-! ### words by draws -/
def lowC (c : Nat) : Bool := decide (97 ≤ c ∧ c ≤ 122)
def lowS (s : Str) : Prop := ∀ c ∈ s.cps.toList, lowC c = true
def okW (s : Str) : Prop := lowS s ∧ 1 ≤ s.length ∧ s.length ≤ 6
theorem atI_exA {α : Type} {ds : List α} {r : Int} (h0 : 0 ≤ r) (h1 : r < ds.length) : ∃ d, atI ds r = some d ∧ d ∈ ds := by
  obtain ⟨j, rfl⟩ := Int.eq_ofNat_of_zero_le h0
  have hk : j < ds.length := by omega
  exact ⟨ds[j], atI_nat (List.getElem?_eq_getElem hk), List.getElem_mem hk⟩
theorem atI_intsM {ns : List Int} {k : Int} (h0 : 0 ≤ k) (h1 : k < ns.length) : ∃ n, atI (ns.map PyData.int) k = some (.int n) ∧ n ∈ ns := by
  obtain ⟨d, h, hm⟩ := atI_exA (ds := ns.map PyData.int) h0 (by rw [List.length_map]; exact h1)
  obtain ⟨n, hn, rfl⟩ := List.mem_map.mp hm
  exact ⟨n, h, hn⟩
def abc : Str := "abcdefghijklmnopqrstuvwxyz"
theorem abc_low : ∀ c ∈ abc.cps.toList, lowC c = true := List.all_eq_true.mp (by decide +kernel)
theorem abc_len : abc.cps.toList.length = 26 := by decide +kernel
theorem abc_at {r : Int} (h0 : 0 ≤ r) (h1 : r < 26) : ∃ c, atI abc.cps.toList r = some c ∧ lowC c = true := by
  obtain ⟨c, h, hm⟩ := atI_exA (ds := abc.cps.toList) h0 (by rw [abc_len]; exact h1)
  exact ⟨c, h, abc_low c hm⟩
theorem low_append {a b : Str} (ha : lowS a) (hb : lowS b) : lowS (a ++ b) := fun c hc => by
  rw [Str.cps_append, Array.toList_append, List.mem_append] at hc
  exact hc.elim (ha c) (hb c)
theorem low_one {c : Nat} (h : lowC c = true) : lowS ⟨#[c]⟩ := fun d hd => by
  have : d = c := by simpa using hd
  rw [this]
  exact h
theorem low_join : ∀ (ts : List Str), (∀ t ∈ ts, lowS t ∧ t.length = 1) → lowS (Txt.join "" ts) ∧ (Txt.join "" ts).length = ts.length := by
  intro ts
  unfold Txt.join
  rw [StrLaws.glued_eq_join]
  induction ts with
  | nil => exact fun _ => ⟨fun c hc => by simp [Str.join, Str.empty] at hc, rfl⟩
  | cons t l ih =>
    intro h
    have h1 := h t (by simp)
    have h2 := ih fun u hu => h u (by simp [hu])
    cases l with
    | nil => exact ⟨h1.1, h1.2⟩
    | cons u r =>
      refine ⟨low_append (low_append h1.1 fun c hc => by cases hc) h2.1, ?_⟩
      show (t ++ "" ++ Str.join "" (u :: r)).length = _
      rw [Str.length_append, Str.length_append, h2.2, h1.2]
      show 1 + 0 + _ = _
      simp
      omega
theorem low_cut {t : Str} {lo hi : Option Int} (h : lowS t) : lowS (cutS t lo hi) := fun c hc => by
  unfold cutS at hc
  exact h c (List.mem_of_mem_drop (List.mem_of_mem_take hc))
theorem cut_lens {t : Str} {a : Int} (h0 : 0 ≤ a) (h1 : a ≤ t.length) : (cutS t none (some a)).length + (cutS t (some a) none).length = t.length := by
  obtain ⟨j, rfl⟩ := Int.eq_ofNat_of_zero_le h0
  have e : t.cps.toList.length = t.length := Array.length_toList
  unfold cutS
  rw [HT.sIx_none, HT.sIx_none, HT.sIx_nat, HT.sIx_nat]
  show (List.toArray _).size + (List.toArray _).size = _
  rw [List.size_toArray, List.size_toArray, List.length_take, List.length_drop, List.length_take, List.length_drop, e]
  omega
def preWords : List PyData → Prop := fun ds => ∃ n : Int, ds = [.int n] ∧ 0 < n ∧ n ≤ 26
def postWords : List PyData → PyData → Prop := fun ds d => ∃ (n : Int) (ws : List Str), ds = [.int n] ∧ d = .list (ws.map .str) ∧ ws.length = n.toNat ∧ ∀ s ∈ ws, okW s
section
variable {P : Program} {w : World} {K : PySem.W.Frag} {mg : Str → Option Value} {base : Heap}
theorem fn_words {f : Addr} {fd : FuncData} (F : Fun K "_law_words" "_law_words" s_words f fd) (B : Bare mg) (D_take : Df P w K mg base "_law_take" (1) p_take (BoxE preTake 1 postTake)) : FnG P w K mg base CX0 (2) f fd p_words (spD K p_words.length (BoxE preWords 9 postWords)) := by
  refine fn_okN F sc_words nm_words ns_words gn_words (fun X g nm ns gn xs om Qd hl hR => ?_)
  have hr := g.room
  obtain ⟨_, _, _, _, _, _, _, _, _⟩ := nm
  obtain ⟨n_box_here, n_count, n_letters, n_begun, n_by, n_tail, n_at, n_found, _⟩ := ns
  obtain ⟨g_take, g_range, g_len, _⟩ := gn
  have c_take := g.cf g_take D_take
  have b_len := g.bi g_len B.len PySem.boot_len
  obtain ⟨b, ds, rfl, rfl, hG, hc, ⟨n, rfl, h0, h1⟩, hq⟩ := hR
  show WS _ _ ⟨[.ob 0, .sh (.int n), .no, .no, .no, .no, .no, .no, .no, .no], [b.o]⟩ _
  refine ws_cons ?_
  refine w1_asgT (g := gTup X.K 3 (gNames [2, 3, 4])) (vs := [2, 3, 4]) (pg_tup g.calm (pgs_cons (pgN n_letters) (pgs_cons (pgN n_begun) (pgs_cons (pgN n_by) pgs_nil)))) ?_ rfl (sw_none g.sc (by decide +kernel)) rfl
  repeat walk_at "d"
  refine ⟨_, _, _, _, rfl, rfl, (by first | rfl | exact get_end _ _ | exact get_mid _ _ _ | exact get_mids _ _ _ | exact get_mids2 _ _ _ _), (by assumption), (by omega), ⟨_, rfl, by omega, by omega⟩, rfl, ?_⟩
  rintro _ b1 ⟨_, r1, e1, rfl, h0_r1, h1_r1⟩ hG_b1 hc_b1
  cases e1
  try rw [set_end]
  try rw [set_mid]
  try rw [set_mids]
  try rw [set_mids2]
  repeat walk_at "d"
  refine ⟨_, _, _, _, rfl, rfl, (by first | rfl | exact get_end _ _ | exact get_mid _ _ _ | exact get_mids _ _ _ | exact get_mids2 _ _ _ _), (by assumption), (by omega), ⟨_, rfl, by omega, by omega⟩, rfl, ?_⟩
  rintro _ b2 ⟨_, r2, e1, rfl, h0_r2, h1_r2⟩ hG_b2 hc_b2
  cases e1
  try rw [set_end]
  try rw [set_mid]
  try rw [set_mids]
  try rw [set_mids2]
  repeat walk_at "d"
  obtain ⟨y, hy⟩ := atI_ints (ns := [1, 3, 7, 25]) h0_r2 h1_r2
  refine id_L hy ?_
  repeat walk_at "d"
  refine gd_tup rfl (by simp) rfl rfl ?_
  repeat walk_at "d"
  refine we_join ?_
  repeat walk_at "d"
  refine ⟨_, rfl, ?_⟩
  with_reducible refine we_lcF (own := [("_law_k", 8)]) (g := gName 8) g.nd ?lc1 ?lc2 ?_ g.calm ?lc4
  case lc4 => exact fun _ => rfl
  case lc1 => exact g.blk (by decide +kernel)
  case lc2 => exact fun s H C cl fp => g.bpg (by decide +kernel)
  refine wi_rng1 g_range.g (by rw [g.mg]; exact B.range) ?_
  repeat walk_at "d"
  refine ⟨_, _, _, _, rfl, rfl, (by first | rfl | exact get_end _ _ | exact get_mid _ _ _ | exact get_mids _ _ _ | exact get_mids2 _ _ _ _), (by assumption), (by omega), ⟨_, rfl, by omega, by omega⟩, rfl, ?_⟩
  rintro _ b3 ⟨_, r3, e1, rfl, h0_r3, h1_r3⟩ hG_b3 hc_b3
  cases e1
  try rw [set_end]
  try rw [set_mid]
  try rw [set_mids]
  try rw [set_mids2]
  repeat walk_at "d"
  obtain ⟨m, hm, hmm⟩ := atI_intsM (ns := [0, 1, 2, 3, 5]) h0_r3 h1_r3
  have hm5 : 0 ≤ m ∧ m ≤ 5 := by
    simp at hmm
    omega
  refine id_L hm ?_
  repeat walk_at "d"
  refine ⟨by omega, by omega, ?_⟩
  refine lcd_st (fun i acc om' => ∃ (b' : Bx) (ts : List Str), acc = ts.map .str ∧ (∀ t ∈ ts, lowS t ∧ t.length = 1) ∧ om' = [b'.o] ∧ b'.G ∧ b'.c ≤ b3.c + (i : Int)) (by rw [rngL_len]; omega) ⟨b3, [], rfl, (by simp), rfl, hG_b3, by omega⟩ (fun _ _ _ _ => trivial) (fun i y acc om' hy hI hl => ?_) (fun acc om' hI hl => ?_)
  · obtain ⟨b4, ts, rfl, hts, rfl, hG_b4, hc_b4⟩ := hI
    obtain ⟨hi2, rfl⟩ := rngL_get hy
    refine gd_name (by simp) ?_
    intro s H C cl fp
    refine g.inB [("_law_k", 8), ("_law_letters", 2), ("_law_box_here", 0)] ["_law_take"] (by decide +kernel) (by decide +kernel) fun nb gb => ?_
    obtain ⟨_, _, _, _⟩ := nb
    show WE _ _ ⟨[_, _, _, _, _, _, _, _, _, _], _⟩ _
    obtain ⟨h_take, _⟩ := gb
    have cb_take := g.bcf h_take D_take
    repeat walk_at "d"
    refine ⟨_, _, _, _, rfl, rfl, (by first | rfl | exact get_end _ _ | exact get_mid _ _ _ | exact get_mids _ _ _ | exact get_mids2 _ _ _ _), (by assumption), (by omega), ⟨_, rfl, by omega, by omega⟩, rfl, ?_⟩
    rintro _ b5 ⟨_, r5, e1, rfl, h0_r5, h1_r5⟩ hG_b5 hc_b5
    cases e1
    try rw [set_end]
    try rw [set_mid]
    try rw [set_mids]
    try rw [set_mids2]
    repeat walk_at "d"
    obtain ⟨c, hca, hcl⟩ := abc_at h0_r5 h1_r5
    refine id_S (by decide +kernel) hca ?_
    exact ⟨_, rfl, b5, ts ++ [⟨#[c]⟩], by rw [List.map_append]; rfl, fun t ht => by
      rcases List.mem_append.mp ht with h | h
      · exact hts t h
      · cases List.mem_singleton.mp h
        exact ⟨low_one hcl, rfl⟩, rfl, hG_b5, by omega⟩
  · obtain ⟨b4, ts, rfl, hts, rfl, hG_b4, hc_b4⟩ := hI
    rw [List.length_map, rngL_len] at hl
    rw [rngL_len] at hc_b4
    obtain ⟨hj1, hj2⟩ := low_join ts hts
    have hs : (ts.map (·.length)).sum = ts.length := by
      clear hl hj1 hj2
      induction ts with
      | nil => rfl
      | cons t l ih =>
        rw [List.map_cons, List.sum_cons, ih fun u hu => hts u (by simp [hu]), (hts t (by simp)).2, List.length_cons]
        omega
    refine ⟨ts, rfl, ?_, ?_⟩
    · rw [hs]
      show ts.length + ts.length * 0 ≤ _
      omega
    obtain ⟨tail, ht⟩ : ∃ tail, Txt.join "" ts = tail := ⟨_, rfl⟩
    rw [ht] at hj1 hj2
    have ht5 : tail.length ≤ 5 := by omega
    have hsz : tail.length ≤ sizeLine := Nat.le_trans ht5 (by decide +kernel)
    rw [show Txt.join ("" : Str) ts = tail from ht]
    repeat walk_at "d"
    refine ⟨_, _, _, _, rfl, rfl, (by first | rfl | exact get_end _ _ | exact get_mid _ _ _ | exact get_mids _ _ _ | exact get_mids2 _ _ _ _), (by assumption), (by omega), ⟨_, rfl, by omega, by omega⟩, rfl, ?_⟩
    rintro _ b6 ⟨_, r6, e1, rfl, h0_r6, h1_r6⟩ hG_b6 hc_b6
    cases e1
    try rw [set_end]
    try rw [set_mid]
    try rw [set_mids]
    try rw [set_mids2]
    repeat walk_at "d"
    with_reducible refine w1_setLcF (own := [("_law_k", 8)]) (g := gName 8) g.nd n_found.n ?lc1 ?lc2 ?_ ?lc5 ?lc6 g.calm ?lc4
    case lc4 => exact fun _ => rfl
    case lc5 => exact sw_lc g.sc (by decide +kernel)
    case lc6 => rw [g.sc]; decide +kernel
    case lc1 => exact g.blk (by decide +kernel)
    case lc2 => exact fun s H C cl fp => g.bpg (by decide +kernel)
    refine wi_rng1 g_range.g (by rw [g.mg]; exact B.range) ?_
    repeat walk_at "d"
    refine ⟨by omega, by omega, ?_⟩
    refine lcd_st (fun i acc om' => ∃ ws : List Str, acc = ws.map .str ∧ (∀ t ∈ ws, okW t) ∧ om' = [b6.o]) (by rw [rngL_len]; omega) ⟨[], rfl, (by simp), rfl⟩ (fun _ _ _ _ => trivial) (fun i y acc om' hy hI hl => ?_) (fun acc om' hI hl => ?_)
    · obtain ⟨ws, rfl, hws, rfl⟩ := hI
      obtain ⟨hi2, rfl⟩ := rngL_get hy
      refine gd_name (by simp) ?_
      intro s H C cl fp
      refine g.inB [("_law_k", 8), ("_law_tail", 5), ("_law_at", 6), ("_law_letters", 2), ("_law_begun", 3), ("_law_by", 4)] [] (by decide +kernel) (by decide +kernel) fun nb gb => ?_
      obtain ⟨_, _, _, _, _, _, _⟩ := nb
      show WE _ _ ⟨[_, _, _, _, _, _, _, _, _, _], _⟩ _
      repeat walk_at "d"
      refine sd_S hsz ?_
      repeat walk_at "d"
      obtain ⟨c, hca, hcl⟩ := abc_at (Int.emod_nonneg (r1 + y * (0 + (i : Int))) (show (26 : Int) ≠ 0 by decide)) (Int.emod_lt_of_pos _ (by decide))
      refine id_S (by decide +kernel) hca ?_
      have hcut := cut_lens (t := tail) h0_r6 (by omega)
      have hc1 : (⟨#[c]⟩ : Str).length = 1 := rfl
      have hsl : sizeLine ≥ 100 := by decide +kernel
      repeat walk_at "d"
      refine sd_S hsz ?_
      repeat walk_at "d"
      refine rd_addS ?_ ?_
      · rw [Str.length_append]
        omega
      refine ⟨_, rfl, ws ++ [_], by rw [List.map_append]; rfl, fun t ht => ?_, rfl⟩
      rcases List.mem_append.mp ht with h | h
      · exact hws t h
      · cases List.mem_singleton.mp h
        refine ⟨low_append (low_append (low_cut hj1) (low_one hcl)) (low_cut hj1), ?_, ?_⟩
        · rw [Str.length_append, Str.length_append]
          omega
        · rw [Str.length_append, Str.length_append]
          omega
    · obtain ⟨ws, rfl, hws, rfl⟩ := hI
      rw [List.length_map, rngL_len] at hl
      repeat walk_at "d"
      with_reducible refine we_lcF (own := [("_law_name", 9)]) (g := gName 9) g.nd ?lc1 ?lc2 ?_ g.calm ?lc4
      case lc4 => exact fun _ => rfl
      case lc1 => exact g.blk (by decide +kernel)
      case lc2 => exact fun s H C cl fp => g.bpg (by decide +kernel)
      refine wi_list ?_
      repeat walk_at "d"
      refine ⟨_, _, .sh _, ?_⟩
      refine lcd_st (fun i acc om' => ∃ ws : List Str, acc = ws.map .str ∧ (∀ t ∈ ws, okW t) ∧ om' = [b6.o]) (by rw [List.length_map, List.length_map]; omega) ⟨[], rfl, (by simp), rfl⟩ (fun _ _ _ _ => trivial) (fun i y acc om' hy hI hl => ?_) (fun acc om' hI hl => ?_)
      · obtain ⟨us, rfl, hus, rfl⟩ := hI
        rw [List.map_map, List.getElem?_map] at hy
        obtain ⟨u, hu, he⟩ := Option.map_eq_some_iff.mp hy
        have he : Sl.sh (.str u) = y := he
        subst he
        have hou := hws u (List.mem_of_getElem? hu)
        refine gd_name (by simp) ?_
        intro s H C cl fp
        refine g.inB [("_law_name", 9)] [] (by decide +kernel) (by decide +kernel) fun nb gb => ?_
        obtain ⟨_, _⟩ := nb
        show WE _ _ ⟨[_, _, _, _, _, _, _, _, _, _], _⟩ _
        repeat walk_at "d"
        refine ⟨fun _ => ?_, fun _ => ?_⟩
        · repeat walk_at "d"
          exact ⟨_, rfl, us ++ [("iff" : Str)], by rw [List.map_append]; rfl, fun t ht => by
            rcases List.mem_append.mp ht with h | h
            · exact hus t h
            · cases List.mem_singleton.mp h
              exact ⟨List.all_eq_true.mp (by decide +kernel), by decide +kernel, by decide +kernel⟩, rfl⟩
        · repeat walk_at "d"
          exact ⟨_, rfl, us ++ [u], by rw [List.map_append]; rfl, fun t ht => by
            rcases List.mem_append.mp ht with h | h
            · exact hus t h
            · cases List.mem_singleton.mp h
              exact hou, rfl⟩
      · obtain ⟨us, rfl, hus, rfl⟩ := hI
        rw [List.length_map, List.length_map, List.length_map] at hl
        repeat walk_at "d"
        exact fin_sh rfl (hq _ b6 ⟨n, us, rfl, rfl, by omega, hus⟩ hG_b6 (by omega))
end

/-! ### variables and terms by draws -/
def postVar : List PyData → PyData → Prop := fun _ d => ∃ v : Int, d = .int v ∧ 0 ≤ v ∧ v ≤ 99
structure TmOk (n : Nat) (t : Tm) : Prop where
  dp : t.dp ≤ n
  vs : ∀ x ∈ t.vs, 0 ≤ x ∧ x ≤ 99
  len : t.vs.length ≤ 2 ^ n
  sz : t.sz < 2 ^ (n + 1)
def preTerm (n : Nat) : List PyData → Prop := fun ds => ∃ m : Nat, m ≤ n ∧ ds = [.int (m : Int)]
def postTerm (n : Nat) : List PyData → PyData → Prop := fun _ d => ∃ t : Tm, d = t.d ∧ TmOk n t
section
variable {P : Program} {w : World} {K : PySem.W.Frag} {mg : Str → Option Value} {base : Heap}
theorem fn_variable {f : Addr} {fd : FuncData} (F : Fun K "_law_variable" "_law_variable" s_variable f fd) (B : Bare mg) (D_take : Df P w K mg base "_law_take" (1) p_take (BoxE preTake 1 postTake)) : FnG P w K mg base CX0 (2) f fd p_variable (spD K p_variable.length (BoxE (fun ds => ds = []) 3 postVar)) := by
  refine fn_okN F sc_variable nm_variable ns_variable gn_variable (fun X g nm ns gn xs om Qd hl hR => ?_)
  have hr := g.room
  obtain ⟨_, _⟩ := nm
  obtain ⟨n_box_here, _⟩ := ns
  obtain ⟨g_take, _⟩ := gn
  have c_take := g.cf g_take D_take
  obtain ⟨b, ds, rfl, rfl, hG, hc, rfl, hq⟩ := hR
  show WS _ _ ⟨[.ob 0], [b.o]⟩ _
  repeat walk_at "d"
  refine ⟨_, _, _, _, rfl, rfl, (by first | rfl | exact get_end _ _ | exact get_mid _ _ _ | exact get_mids _ _ _ | exact get_mids2 _ _ _ _), (by assumption), (by omega), ⟨_, rfl, by omega, by omega⟩, rfl, ?_⟩
  rintro _ b1 ⟨_, r1, e1, rfl, h0_r1, h1_r1⟩ hG_b1 hc_b1
  cases e1
  try rw [set_end]
  try rw [set_mid]
  try rw [set_mids]
  try rw [set_mids2]
  repeat walk_at "d"
  refine ⟨_, _, _, _, rfl, rfl, (by first | rfl | exact get_end _ _ | exact get_mid _ _ _ | exact get_mids _ _ _ | exact get_mids2 _ _ _ _), (by assumption), (by omega), ⟨_, rfl, by omega, by omega⟩, rfl, ?_⟩
  rintro _ b2 ⟨_, r2, e1, rfl, h0_r2, h1_r2⟩ hG_b2 hc_b2
  cases e1
  try rw [set_end]
  try rw [set_mid]
  try rw [set_mids]
  try rw [set_mids2]
  repeat walk_at "d"
  refine ⟨_, _, _, _, rfl, rfl, (by first | rfl | exact get_end _ _ | exact get_mid _ _ _ | exact get_mids _ _ _ | exact get_mids2 _ _ _ _), (by assumption), (by omega), ⟨_, rfl, by omega, by omega⟩, rfl, ?_⟩
  rintro _ b3 ⟨_, r3, e1, rfl, h0_r3, h1_r3⟩ hG_b3 hc_b3
  cases e1
  try rw [set_end]
  try rw [set_mid]
  try rw [set_mids]
  try rw [set_mids2]
  have h3 : r3 = 0 ∨ r3 = 1 := by omega
  rcases h3 with rfl | rfl
  · refine id_L (d := .int r1) rfl ?_
    repeat walk_at "d"
    exact fin_sh rfl (hq _ b3 ⟨r1, rfl, by omega, by omega⟩ hG_b3 (by omega))
  · refine id_L (d := .int r2) rfl ?_
    repeat walk_at "d"
    exact fin_sh rfl (hq _ b3 ⟨r2, rfl, by omega, by omega⟩ hG_b3 (by omega))
theorem step_term {f : Addr} {fd : FuncData} (F : Fun K "_law_term" "_law_term" s_term f fd) (B : Bare mg) (D_take : Df P w K mg base "_law_take" (1) p_take (BoxE preTake 1 postTake)) (D_variable : Df P w K mg base "_law_variable" (2) p_variable (BoxE (fun ds => ds = []) 3 postVar)) (n : Nat) (hrec : ∀ m, m < n → Df P w K mg base "_law_term" (m + 3) p_term (BoxE (preTerm m) (6 * 2 ^ m - 1) (postTerm m))) : FnG P w K mg base CX0 (n + 3) f fd p_term (spD K p_term.length (BoxE (preTerm n) (6 * 2 ^ n - 1) (postTerm n))) := by
  refine fn_okN F sc_term nm_term ns_term gn_term (fun X g nm ns gn xs om Qd hl hR => ?_)
  have hr := g.room
  obtain ⟨_, _, _, _⟩ := nm
  obtain ⟨n_box_here, n_deep, n_way, _⟩ := ns
  obtain ⟨g_take, g_variable, g_term, _⟩ := gn
  have c_take := g.cf g_take D_take
  have c_variable := g.cf g_variable D_variable
  obtain ⟨b, ds, rfl, rfl, hG, hc, ⟨m0, hm0, rfl⟩, hq⟩ := hR
  show WS _ _ ⟨[.ob 0, .sh (.int m0), .no], [b.o]⟩ _
  have hp : 1 ≤ 2 ^ n := Nat.one_le_two_pow
  repeat walk_at "d"
  refine ⟨_, _, _, _, rfl, rfl, (by first | rfl | exact get_end _ _ | exact get_mid _ _ _ | exact get_mids _ _ _ | exact get_mids2 _ _ _ _), (by assumption), (by omega), ⟨_, rfl, by omega, by omega⟩, rfl, ?_⟩
  rintro _ b1 ⟨_, way, e1, rfl, h0_way, h1_way⟩ hG_b1 hc_b1
  cases e1
  try rw [set_end]
  try rw [set_mid]
  try rw [set_mids]
  try rw [set_mids2]
  have c_variable := g.cf g_variable D_variable
  have hvar : ∀ v : Int, 0 ≤ v ∧ v ≤ 99 → postTerm n [.int (m0 : Int)] (.int v) := fun v hv => ⟨.v v, rfl, ⟨Nat.zero_le _, fun x hx => by rw [List.mem_singleton.mp hx]; exact hv, hp, by show 1 < 2 ^ (n + 1); rw [Nat.pow_succ]; omega⟩⟩
  repeat walk_at "d"
  refine ⟨fun h => ⟨fun _ => ?_, fun h => by cases h⟩, fun h => ?_⟩
  · skip
    repeat walk_at "d"
    refine ⟨_, _, _, _, rfl, rfl, (by first | rfl | exact get_end _ _ | exact get_mid _ _ _ | exact get_mids _ _ _ | exact get_mids2 _ _ _ _), (by assumption), (by omega), ⟨_, rfl, by omega, by omega⟩, rfl, ?_⟩
    rintro _ b2 ⟨_, r2, e1, rfl, h0_r2, h1_r2⟩ hG_b2 hc_b2
    cases e1
    try rw [set_end]
    try rw [set_mid]
    try rw [set_mids]
    try rw [set_mids2]
    repeat walk_at "d"
    refine ⟨fun h2 => ?_, fun h2 => ?_⟩
    · repeat walk_at "d"
      refine ⟨_, _, _, _, rfl, rfl, (by first | rfl | exact get_end _ _ | exact get_mid _ _ _ | exact get_mids _ _ _ | exact get_mids2 _ _ _ _), (by assumption), (by omega), rfl, rfl, ?_⟩
      rintro d_b3 b3 ⟨v, rfl, hv0, hv9⟩ hG_b3 hc_b3
      try rw [set_end]
      try rw [set_mid]
      try rw [set_mids]
      try rw [set_mids2]
      repeat walk_at "d"
      exact fin_sh rfl (hq _ b3 (hvar v ⟨hv0, hv9⟩) hG_b3 (by omega))
    · repeat walk_at "d"
      exact fin_sh rfl (hq _ b2 ⟨.z, rfl, ⟨Nat.zero_le _, fun x hx => (by cases hx), Nat.zero_le _, by show 1 < 2 ^ (n + 1); rw [Nat.pow_succ]; omega⟩⟩ hG_b2 (by omega))
  (repeat walk_at "d"); refine ⟨fun h => ?_, fun h => ?_⟩
  · skip
    repeat walk_at "d"
    refine ⟨_, _, _, _, rfl, rfl, (by first | rfl | exact get_end _ _ | exact get_mid _ _ _ | exact get_mids _ _ _ | exact get_mids2 _ _ _ _), (by assumption), (by omega), ⟨_, rfl, by omega, by omega⟩, rfl, ?_⟩
    rintro _ b2 ⟨_, r2, e1, rfl, h0_r2, h1_r2⟩ hG_b2 hc_b2
    cases e1
    try rw [set_end]
    try rw [set_mid]
    try rw [set_mids]
    try rw [set_mids2]
    repeat walk_at "d"
    refine ⟨fun h2 => ?_, fun h2 => ?_⟩
    · repeat walk_at "d"
      refine ⟨_, _, _, _, rfl, rfl, (by first | rfl | exact get_end _ _ | exact get_mid _ _ _ | exact get_mids _ _ _ | exact get_mids2 _ _ _ _), (by assumption), (by omega), rfl, rfl, ?_⟩
      rintro d_b3 b3 ⟨v, rfl, hv0, hv9⟩ hG_b3 hc_b3
      try rw [set_end]
      try rw [set_mid]
      try rw [set_mids]
      try rw [set_mids2]
      repeat walk_at "d"
      exact fin_sh rfl (hq _ b3 (hvar v ⟨hv0, hv9⟩) hG_b3 (by omega))
    · repeat walk_at "d"
      exact fin_sh rfl (hq _ b2 ⟨.z, rfl, ⟨Nat.zero_le _, fun x hx => (by cases hx), Nat.zero_le _, by show 1 < 2 ^ (n + 1); rw [Nat.pow_succ]; omega⟩⟩ hG_b2 (by omega))
  have hn1 : ¬ ((m0 : Int) < 1) := of_decide_eq_false (by assumption)
  obtain ⟨m, rfl⟩ : ∃ m, n = m + 1 := ⟨n - 1, by omega⟩
  have er : ((m0 : Int) - 1) = ((m0 - 1 : Nat) : Int) := by omega
  have c_term := g.cf g_term (hrec m (by omega))
  have e2 : 2 ^ (m + 1) = 2 * 2 ^ m := by rw [Nat.pow_succ]; omega
  have e3 : 2 ^ (m + 1 + 1) = 2 * (2 * 2 ^ m) := by rw [Nat.pow_succ, e2]; omega
  rw [e2] at hc hq hp
  repeat walk_at "d"
  refine ⟨fun h3 => ?_, fun h3 => ?_⟩
  · repeat walk_at "d"
    rw [er]
    refine ⟨_, _, _, _, rfl, rfl, (by first | rfl | exact get_end _ _ | exact get_mid _ _ _ | exact get_mids _ _ _ | exact get_mids2 _ _ _ _), (by assumption), (by omega), ⟨m0 - 1, by omega, rfl⟩, rfl, ?_⟩
    rintro d_b2 b2 ⟨t, rfl, ht⟩ hG_b2 hc_b2
    try rw [set_end]
    try rw [set_mid]
    try rw [set_mids]
    try rw [set_mids2]
    repeat walk_at "d"
    have h1 := ht.dp
    have h2 := ht.len
    have h4 := ht.sz
    exact fin_sh rfl (hq _ b2 ⟨.s t, rfl, ⟨by show t.dp + 1 ≤ _; omega, ht.vs, by show t.vs.length ≤ _; omega, by show t.sz + 1 < _; omega⟩⟩ hG_b2 (by omega))
  · repeat walk_at "d"
    refine ⟨fun h5 => ?_, fun h5 => ?_⟩
    · repeat walk_at "d"
      rw [er]
      refine ⟨_, _, _, _, rfl, rfl, (by first | rfl | exact get_end _ _ | exact get_mid _ _ _ | exact get_mids _ _ _ | exact get_mids2 _ _ _ _), (by assumption), (by omega), ⟨m0 - 1, by omega, rfl⟩, rfl, ?_⟩
      rintro d_b2 b2 ⟨t, rfl, ht⟩ hG_b2 hc_b2
      try rw [set_end]
      try rw [set_mid]
      try rw [set_mids]
      try rw [set_mids2]
      repeat walk_at "d"
      rw [er]
      refine ⟨_, _, _, _, rfl, rfl, (by first | rfl | exact get_end _ _ | exact get_mid _ _ _ | exact get_mids _ _ _ | exact get_mids2 _ _ _ _), (by assumption), (by omega), ⟨m0 - 1, by omega, rfl⟩, rfl, ?_⟩
      rintro d_b3 b3 ⟨u, rfl, hu⟩ hG_b3 hc_b3
      try rw [set_end]
      try rw [set_mid]
      try rw [set_mids]
      try rw [set_mids2]
      repeat walk_at "d"
      have h1 := ht.dp
      have h2 := ht.len
      have h4 := ht.sz
      have k1 := hu.dp
      have k2 := hu.len
      have k4 := hu.sz
      refine fin_sh rfl (hq _ b3 ⟨.f t u, rfl, ⟨?_, fun x hx => ?_, ?_, ?_⟩⟩ hG_b3 (by omega))
      · show max t.dp u.dp + 1 ≤ _
        omega
      · exact (List.mem_append.mp hx).elim (ht.vs x) (hu.vs x)
      · show (t.vs ++ u.vs).length ≤ _
        rw [List.length_append]
        omega
      · show t.sz + u.sz + 1 < _
        omega
    · repeat walk_at "d"
      refine ⟨_, _, _, _, rfl, rfl, (by first | rfl | exact get_end _ _ | exact get_mid _ _ _ | exact get_mids _ _ _ | exact get_mids2 _ _ _ _), (by assumption), (by omega), rfl, rfl, ?_⟩
      rintro d_b3 b3 ⟨v, rfl, hv0, hv9⟩ hG_b3 hc_b3
      try rw [set_end]
      try rw [set_mid]
      try rw [set_mids]
      try rw [set_mids2]
      repeat walk_at "d"
      exact fin_sh rfl (hq _ b3 (hvar v ⟨hv0, hv9⟩) hG_b3 (by omega))
theorem fn_term {f : Addr} {fd : FuncData} (F : Fun K "_law_term" "_law_term" s_term f fd) (hm : mg "_law_term" = some (.ref f)) (hb : Binds K fd p_term []) (B : Bare mg) (D_take : Df P w K mg base "_law_take" (1) p_take (BoxE preTake 1 postTake)) (D_variable : Df P w K mg base "_law_variable" (2) p_variable (BoxE (fun ds => ds = []) 3 postVar)) : ∀ n : Nat, Df P w K mg base "_law_term" (n + 3) p_term (BoxE (preTerm n) (6 * 2 ^ n - 1) (postTerm n)) := by
  intro n
  induction n using Nat.strongRecOn with
  | ind n ih => exact ⟨f, fd, step_term F B D_take D_variable n ih, hm, F.kp, hb⟩
end

/-! ### what names and atoms are -/
def isN : PyData → Bool
  | .str s => decide (1 ≤ s.length) && (decide (s.length ≤ 6) && (!decide (s = "if") && s.cps.toList.all lowC))
  | _ => false
def isA : PyData → Bool
  | .tuple (x :: ds) => decide (1 ≤ ds.length) && (decide (ds.length ≤ 2) && (isN x && ds.all isT))
  | _ => false
theorem abc_mem (c : Nat) : decide (c ∈ abc.cps.toList) = lowC c := by
  have e : abc.cps.toList = (List.range 26).map (97 + ·) := by decide +kernel
  rw [e]
  unfold lowC
  congr 1
  simp only [List.mem_map, List.mem_range]
  refine propext ⟨?_, fun h => ⟨c - 97, by omega, by omega⟩⟩
  rintro ⟨x, h, rfl⟩
  omega
def isNF : List PyData → PyData → Prop := fun ds r => ∃ d n, ds = [d] ∧ Gn n d ∧ r = .bool (isN d)
def isAF : List PyData → PyData → Prop := fun ds r => ∃ d n, ds = [d] ∧ Gn n d ∧ n ≤ 40 ∧ nodes d ≤ 15000 ∧ r = .bool (isA d)
def cntB : PyData → Int → Bool
  | .int i, k => decide (0 ≤ i) && decide (i < k)
  | _, _ => false
def cntF : List PyData → PyData → Prop := fun ds r => ∃ (d : PyData) (n : Nat) (k : Int), ds = [d, .int k] ∧ Gn n d ∧ r = .bool (cntB d k)
theorem gn_size {n : Nat} {s : Str} (h : Gn n (.str s)) : s.length ≤ sizeLine := by
  have h : asc s = true ∧ s.length ≤ 40 := by simpa only [Gn] using h
  exact Nat.le_trans h.2 (by decide +kernel)
theorem gn_size2 {n : Nat} {s : Str} (h : Gn n (.str s)) : s.length ≤ 40 := by
  have h : asc s = true ∧ s.length ≤ 40 := by simpa only [Gn] using h
  exact h.2
section
variable {P : Program} {w : World} {K : PySem.W.Frag} {mg : Str → Option Value} {base : Heap}
theorem fn_is_name {f : Addr} {fd : FuncData} (F : Fun K "is_name" "is_name" s_is_name f fd) (B : Bare mg) (I_LETTERS : ∃ t, mg "LETTERS" = some (.str "abcdefghijklmnopqrstuvwxyz" t)) (I_MOST_LETTERS : ∃ t, mg "MOST_LETTERS" = some (.int 6 t)) (I_NO_NAME : ∃ t, mg "NO_NAME" = some (.str "if" t)) : FnG P w K mg base CX0 (1) f fd p_is_name (spD K p_is_name.length (PureR isNF)) := by
  refine fn_okN F sc_is_name nm_is_name ns_is_name gn_is_name (fun X g nm ns gn xs om Qd hl hR => ?_)
  have hr := g.room
  obtain ⟨_, _⟩ := nm
  obtain ⟨n_thing, _⟩ := ns
  obtain ⟨g_isinstance, g_str, g_len, g_MOST_LETTERS, g_NO_NAME, g_all, _⟩ := gn
  have b_isinstance := g.bi g_isinstance B.isi PyProof.Rows.boot_isinstance
  have b_str := g.bt g_str B.str PyProof.Rows.boot_str
  have b_len := g.bi g_len B.len PySem.boot_len
  have b_all := g.bi g_all B.all PyProof.Rows.boot_all
  obtain ⟨t1, hM1⟩ := I_LETTERS
  obtain ⟨t2, hM2⟩ := I_MOST_LETTERS
  obtain ⟨t3, hM3⟩ := I_NO_NAME
  rw [← g.mg] at hM1 hM2 hM3
  obtain ⟨ds, r, rfl, rfl, ⟨d, n, rfl, hd, rfl⟩, hq⟩ := hR
  show WS _ _ ⟨[.sh d, .no], []⟩ _
  cases d with
  | dict _ => cases n <;> exact hd.elim
  | none =>
    repeat walk_at "e"
    exact fin_sh rfl hq
  | bool b =>
    repeat walk_at "e"
    exact fin_sh rfl hq
  | int i =>
    repeat walk_at "e"
    exact fin_sh rfl hq
  | list ds =>
    repeat walk_at "e"
    exact fin_sh rfl hq
  | tuple ds =>
    repeat walk_at "e"
    exact fin_sh rfl hq
  | str s =>
    have hsz := gn_size hd
    have hs4 := gn_size2 hd
    have hsl : s.cps.toList.length = s.length := Array.length_toList
    have hq : Qd (.sh (.bool (decide (1 ≤ s.length) && (decide (s.length ≤ 6) && (!decide (s = "if") && s.cps.toList.all lowC))))) [] := hq
    repeat walk_at "e"
    refine wt_chain ?_
    repeat walk_at "e"
    refine ⟨_, rfl, fun h => ?_, fun h => ?_⟩
    · have h : decide (1 ≤ s.length) = true := decide_eq_true (by have := of_decide_eq_true h; omega)
      rw [h, Bool.true_and] at hq
      repeat walk_at "e"
      by_cases h2 : s.length ≤ 6
      · rw [decide_eq_true h2, Bool.true_and] at hq
        rw [decide_eq_true (show ((s.length : Nat) : Int) ≤ 6 by omega)]
        repeat walk_at "e"
        by_cases h3 : s = "if"
        · rw [decide_eq_true h3] at hq ⊢
          repeat walk_at "e"
          exact fin_sh rfl hq
        · rw [decide_eq_false h3] at hq ⊢
          repeat walk_at "e"
          with_reducible refine we_lcF (own := [("letter", 1)]) (g := gName 1) g.nd ?lc1 ?lc2 ?_ g.calm ?lc4
          case lc4 => exact fun _ => rfl
          case lc1 => exact g.blk (by decide +kernel)
          case lc2 => exact fun s H C cl fp => g.bpg (by decide +kernel)
          refine wi_str ?_
          repeat walk_at "e"
          refine ⟨_, rfl, ?_⟩
          refine lcd_map ((s.cps.toList.map lowC).map .bool) (by simp [signsD]) (by unfold signsD; rw [List.length_map]; omega) trivial (fun i y v hy hv => ?_) ?_
          · unfold signsD at hy
            rw [List.getElem?_map] at hy
            obtain ⟨c, hc, rfl⟩ := Option.map_eq_some_iff.mp hy
            rw [List.map_map, List.getElem?_map, hc] at hv
            cases hv
            refine gd_name (by simp) ?_
            intro s H C cl fp
            refine g.inB [("letter", 1)] ["LETTERS"] (by decide +kernel) (by decide +kernel) fun nb gb => ?_
            obtain ⟨_, _⟩ := nb
            show WE _ _ ⟨[_, _], _⟩ _
            obtain ⟨h_LETTERS, _⟩ := gb
            repeat walk_at "e"
            refine rd_inSg ?_
            rw [show decide (c ∈ ("abcdefghijklmnopqrstuvwxyz" : Str).cps.toList) = lowC c from abc_mem c]
            exact ⟨rfl, rfl⟩
          repeat walk_at "e"
          refine cd_all (bs := s.cps.toList.map lowC) (bls_map _) ?_ g.calm
          rw [List.all_map]
          repeat walk_at "e"
          exact fin_sh rfl hq
      · rw [decide_eq_false h2] at hq
        rw [decide_eq_false (show ¬ ((s.length : Nat) : Int) ≤ 6 by omega)]
        repeat walk_at "e"
        exact fin_sh rfl hq
    · have h : decide (1 ≤ s.length) = false := decide_eq_false (by have := of_decide_eq_false h; omega)
      rw [h] at hq
      repeat walk_at "e"
      exact fin_sh rfl hq
end

/-! ### the law's own looks at terms and atoms -/
theorem eqv_unit (ds : List PyData) : PyData.eqv (.tuple ds) (.tuple []) = ds.isEmpty := by
  cases ds with
  | nil => decide +kernel
  | cons a l => simp [PyData.eqv, PyData.eqvAll]
def arT : List (Key × PyData) := kiD [("0", 1), ("s", 2), ("f", 3)]
theorem ar_tab (s : Str) : valG (mergeG [] arT) (.inr s) = (ar s).map fun a : Nat => .int ((a : Int) + 1) := by
  have e : mergeG [] arT = arT := by
    refine mergeG_nodup ?_
    decide +kernel
  rw [e]
  unfold ar arT kiD valG
  by_cases h0 : s = "0"
  · subst h0
    rw [if_pos rfl]
    kernel_rfl
  by_cases h1 : s = "s"
  · subst h1
    rw [if_neg h0, if_pos rfl]
    kernel_rfl
  by_cases h2 : s = "f"
  · subst h2
    rw [if_neg h0, if_neg h1, if_pos rfl]
    kernel_rfl
  rw [if_neg h0, if_neg h1, if_neg h2]
  simp only [List.map_cons, List.map_nil, List.find?_cons, List.find?_nil]
  rw [decide_eq_false (fun e => h0 (Sum.inr.inj e).symm), decide_eq_false (fun e => h1 (Sum.inr.inj e).symm), decide_eq_false (fun e => h2 (Sum.inr.inj e).symm)]
  rfl
def treeQ (n : Nat) : List PyData → PyData → Prop := fun ds r => ∃ d, ds = [d] ∧ Gn n d ∧ n ≤ 64 ∧ nodes d ≤ 15000 ∧ r = .bool (isT d)
theorem int_shaped (k : Int) : SeqAt.shaped (.int k) = true := by simp [SeqAt.shaped, PyData.canLay0, PyData.depth]
theorem in23 (k : Nat) : Dl.inD (.int (k : Nat)) [.int 2, .int 3] = (decide (k = 2) || decide (k = 3)) := by
  unfold Dl.inD
  simp only [List.any_cons, List.any_nil, eqv_int, Bool.or_false]
  rw [Bool.eq_iff_iff]
  simp
  omega
section
variable {P : Program} {w : World} {K : PySem.W.Frag} {mg : Str → Option Value} {base : Heap}
theorem fn_is_atom {f : Addr} {fd : FuncData} (F : Fun K "is_atom" "is_atom" s_is_atom f fd) (B : Bare mg) (D_is_name : Df P w K mg base "is_name" (1) p_is_name (PureR isNF)) (D_is_term : Df P w K mg base "is_term" (2) p_is_term (PureR isTF)) (I_MOST_TERMS : ∃ t, mg "MOST_TERMS" = some (.int 2 t)) : FnG P w K mg base CX0 (3) f fd p_is_atom (spD K p_is_atom.length (PureR isAF)) := by
  refine fn_okN F sc_is_atom nm_is_atom ns_is_atom gn_is_atom (fun X g nm ns gn xs om Qd hl hR => ?_)
  have hr := g.room
  obtain ⟨_, _⟩ := nm
  obtain ⟨n_thing, _⟩ := ns
  obtain ⟨g_isinstance, g_tuple, g_len, g_MOST_TERMS, g_is_name, g_all, _⟩ := gn
  have b_isinstance := g.bi g_isinstance B.isi PyProof.Rows.boot_isinstance
  have b_tuple := g.bt g_tuple B.tup PyProof.Rows.boot_tuple
  have b_len := g.bi g_len B.len PySem.boot_len
  have c_is_name := g.cf g_is_name D_is_name
  have b_all := g.bi g_all B.all PyProof.Rows.boot_all
  obtain ⟨t1, hM1⟩ := I_MOST_TERMS
  rw [← g.mg] at hM1
  obtain ⟨ds, r, rfl, rfl, ⟨d, n, rfl, hd, hn, hz, rfl⟩, hq⟩ := hR
  show WS _ _ ⟨[.sh d, .no], []⟩ _
  cases d with
  | dict _ => cases n <;> exact hd.elim
  | none =>
    repeat walk_at "e"
    exact fin_sh rfl hq
  | bool b =>
    repeat walk_at "e"
    exact fin_sh rfl hq
  | int i =>
    repeat walk_at "e"
    exact fin_sh rfl hq
  | list ds =>
    repeat walk_at "e"
    exact fin_sh rfl hq
  | str s =>
    repeat walk_at "e"
    exact fin_sh rfl hq
  | tuple ds =>
    cases ds with
    | nil =>
      repeat walk_at "e"
      refine wt_chain ?_
      repeat walk_at "e"
      refine ⟨_, rfl, fun h => absurd h (by decide), fun h => ?_⟩
      repeat walk_at "e"
      exact fin_sh rfl hq
    | cons x ds =>
      obtain ⟨m, rfl⟩ : ∃ m, n = m + 1 := by
        cases n with
        | zero => exact hd.elim
        | succ m => exact ⟨m, rfl⟩
      have hx := hd x List.mem_cons_self
      have hds : ∀ y ∈ ds, Gn m y := fun y hy => hd y (List.mem_cons_of_mem _ hy)
      simp only [nodes, nodesL] at hz
      have hq : Qd (.sh (.bool (decide (1 ≤ ds.length) && (decide (ds.length ≤ 2) && (isN x && ds.all isT))))) [] := hq
      repeat walk_at "e"
      refine wt_chain ?_
      repeat walk_at "e"
      have hcl : (x :: ds).length = ds.length + 1 := List.length_cons
      refine ⟨_, rfl, fun h => ?_, fun h => ?_⟩
      · have h := of_decide_eq_true h
        rw [decide_eq_true (show 1 ≤ ds.length by omega), Bool.true_and] at hq
        repeat walk_at "e"
        by_cases h2 : ds.length ≤ 2
        · rw [decide_eq_true h2, Bool.true_and] at hq
          rw [decide_eq_true (show (((x :: ds).length : Nat) : Int) ≤ 1 + 2 by omega)]
          repeat walk_at "e"
          refine id_T (atI_nat (j := 0) rfl) ?_
          repeat walk_at "e"
          refine ⟨_, _, rfl, ⟨x, m, rfl, hx, rfl⟩, rfl, ?_⟩
          cases hN : isN x with
          | false =>
            rw [hN] at hq
            repeat walk_at "e"
            exact fin_sh rfl hq
          | true =>
            rw [hN, Bool.true_and] at hq
            repeat walk_at "e"
            with_reducible refine we_lcF (own := [("term", 1)]) (g := gName 1) g.nd ?lc1 ?lc2 ?_ g.calm ?lc4
            case lc4 => exact fun _ => rfl
            case lc1 => exact g.blk (by decide +kernel)
            case lc2 => exact fun s H C cl fp => g.bpg (by decide +kernel)
            refine wi_tup ?_
            repeat walk_at "e"
            rw [cut_tail]
            refine ⟨_, rfl, ?_⟩
            refine lcd_map ((ds.map isT).map .bool) (by simp) (by rw [List.length_map]; omega) trivial (fun i y v hy hv => ?_) ?_
            · rw [List.getElem?_map] at hy
              obtain ⟨y, hy2, rfl⟩ := Option.map_eq_some_iff.mp hy
              rw [List.map_map, List.getElem?_map, hy2] at hv
              cases hv
              refine gd_name (by simp) ?_
              intro s H C cl fp
              refine g.inB [("term", 1)] ["is_term"] (by decide +kernel) (by decide +kernel) fun nb gb => ?_
              obtain ⟨_, _⟩ := nb
              show WE _ _ ⟨[_, _], _⟩ _
              obtain ⟨h_is_term, _⟩ := gb
              have cb_is_term := g.bcf h_is_term D_is_term
              repeat walk_at "e"
              have hxm := List.mem_of_getElem? hy2
              have hxz := nodesL_mem hxm
              exact ⟨_, _, rfl, ⟨y, m, rfl, hds y hxm, by omega, rfl⟩, rfl, rfl, rfl⟩
            · repeat walk_at "e"
              refine cd_all (bs := ds.map isT) (bls_map _) ?_ g.calm
              rw [show (ds.map isT).all _root_.id = ds.all isT by rw [List.all_map]; rfl]
              repeat walk_at "e"
              exact fin_sh rfl hq
        · rw [decide_eq_false h2] at hq
          rw [decide_eq_false (show ¬ (((x :: ds).length : Nat) : Int) ≤ 1 + 2 by omega)]
          repeat walk_at "e"
          exact fin_sh rfl hq
      · have h := of_decide_eq_false h
        rw [decide_eq_false (show ¬ 1 ≤ ds.length by omega)] at hq
        repeat walk_at "e"
        exact fin_sh rfl hq
end

/-! ### what rules are -/
def isI : PyData → Bool
  | .int _ => true
  | _ => false
def tailD : PyData → List PyData
  | .tuple (_ :: ds) => ds
  | _ => []
def metT : PyData → List PyData
  | .int i => [.int i]
  | .tuple (_ :: ds) => ds
  | _ => []
def metA (h : PyData) : List PyData := ((tailD h).map metT).flatten
def isPat : PyData → Bool
  | .int _ => true
  | .tuple (_ :: ds) => ds.all isI
  | _ => false
def rngB : Nat → List PyData → Bool
  | _, [] => true
  | k, .int i :: r => decide (i = (k : Int)) && rngB (k + 1) r
  | _, _ => false
def isH (d : PyData) : Bool := isA d && rngB 0 (metA d)
def ltI (n : Nat) : PyData → Bool
  | .int i => decide (i < (n : Int))
  | _ => false
def bodB (n : Nat) : PyData → Bool
  | .tuple as => decide (as.length ≤ 3) && (as.all isA && as.all fun a => (tailD a).all (ltI n))
  | _ => false
def isR : PyData → Bool
  | .tuple [h, b] => isH h && bodB (metA h).length b
  | _ => false
theorem rngB_int : ∀ (l : List PyData) (k : Nat), rngB k l = true → l.all isI = true
  | [], _, _ => rfl
  | .int i :: r, k, h => by
    simp only [rngB, Bool.and_eq_true] at h
    simp only [List.all_cons, isI, Bool.true_and]
    exact rngB_int r (k + 1) h.2
  | .none :: r, k, h => by simp [rngB] at h
  | .bool _ :: r, k, h => by simp [rngB] at h
  | .str _ :: r, k, h => by simp [rngB] at h
  | .list _ :: r, k, h => by simp [rngB] at h
  | .tuple _ :: r, k, h => by simp [rngB] at h
  | .dict _ :: r, k, h => by simp [rngB] at h
theorem rngB_eqv : ∀ (l : List PyData) (k : Nat), l.all isI = true → PyData.eqvAll l ((List.range l.length).map fun (i : Nat) => .int ((k + i : Nat) : Int)) = rngB k l
  | [], k, _ => by simp [rngB, PyData.eqvAll]
  | .int i :: r, k, h => by
    have h2 : r.all isI = true := by simpa [isI] using h
    have ih := rngB_eqv r (k + 1) h2
    rw [List.length_cons, List.range_succ_eq_map, List.map_cons, List.map_map, eqvAll_cons, eqv_int]
    show (decide (i = ((k + 0 : Nat) : Int)) && _) = (decide (i = (k : Int)) && rngB (k + 1) r)
    rw [Nat.add_zero, ← ih]
    congr 2
    refine List.map_congr_left fun j _ => ?_
    show PyData.int ((k + (j + 1) : Nat) : Int) = PyData.int ((k + 1 + j : Nat) : Int)
    rw [show k + (j + 1) = k + 1 + j by omega]
  | .none :: r, k, h => by simp [isI] at h
  | .bool _ :: r, k, h => by simp [isI] at h
  | .str _ :: r, k, h => by simp [isI] at h
  | .list _ :: r, k, h => by simp [isI] at h
  | .tuple _ :: r, k, h => by simp [isI] at h
  | .dict _ :: r, k, h => by simp [isI] at h
theorem rng_eqv {l : List PyData} (h : l.all isI = true) : PyData.eqv (.list l) (.list (rngD l.length)) = rngB 0 l := by
  have := rngB_eqv l 0 h
  rw [show PyData.eqv (.list l) (.list (rngD l.length)) = PyData.eqvAll l (rngD l.length) by simp only [PyData.eqv], ← this]
  unfold rngD
  congr 2
  funext i
  rw [Nat.zero_add]
theorem isT_shape {d : PyData} (h : isT d = true) : (∃ i, d = .int i ∧ 0 ≤ i ∧ i ≤ 99) ∨ ∃ s ds, d = .tuple (.str s :: ds) ∧ ds.all isT = true ∧ ds.length ≤ 2 := by
  cases d with
  | int i => exact .inl ⟨i, rfl, by simpa [isT] using h⟩
  | tuple ds =>
    cases ds with
    | nil => simp [isT, arOk] at h
    | cons e ds =>
      cases e with
      | str s =>
        rw [isT_tup, Bool.and_eq_true, decide_eq_true_eq] at h
        refine .inr ⟨s, ds, rfl, h.2, ?_⟩
        rcases ar_cases h.1 with ⟨_, e⟩ | ⟨_, e⟩ | ⟨_, e⟩ <;> omega
      | _ => simp [isT, arOk] at h
  | _ => simp [isT] at h
theorem pat_met {d : PyData} (h : isT d = true) : isPat d = (metT d).all isI := by
  rcases isT_shape h with ⟨i, rfl, _⟩ | ⟨s, ds, rfl, _⟩ <;> rfl
theorem isA_tail {d : PyData} (h : isA d = true) : ∃ x ds, d = .tuple (x :: ds) ∧ isN x = true ∧ ds.all isT = true ∧ 1 ≤ ds.length ∧ ds.length ≤ 2 := by
  unfold isA at h
  split at h
  · rename_i x ds
    simp only [Bool.and_eq_true, decide_eq_true_eq] at h
    exact ⟨x, ds, rfl, h.2.2.1, h.2.2.2, h.1, h.2.1⟩
  · cases h
theorem all_flat (l : List (List PyData)) (f : PyData → Bool) : l.flatten.all f = l.all fun m => m.all f := by
  induction l with
  | nil => rfl
  | cons a l ih => rw [List.flatten_cons, List.all_append, ih, List.all_cons]
theorem pats_met {h : PyData} (ha : isA h = true) : (tailD h).all isPat = (metA h).all isI := by
  obtain ⟨x, ds, rfl, _, hT, _⟩ := isA_tail ha
  unfold metA
  rw [all_flat, List.all_map]
  show ds.all isPat = ds.all _
  rw [List.all_eq_true] at hT
  rw [Bool.eq_iff_iff, List.all_eq_true, List.all_eq_true]
  exact ⟨fun q t ht => by show (metT t).all isI = true; rw [← pat_met (hT t ht)]; exact q t ht, fun q t ht => by rw [pat_met (hT t ht)]; exact q t ht⟩
theorem met_len {d : PyData} (h : isT d = true) : (metT d).length ≤ 2 := by
  rcases isT_shape h with ⟨i, rfl, _⟩ | ⟨s, ds, rfl, _, hl⟩
  · simp [metT]
  · exact hl
theorem metA_len {h : PyData} (ha : isA h = true) : (metA h).length ≤ 4 := by
  obtain ⟨x, ds, rfl, _, hT, _, hl⟩ := isA_tail ha
  rw [List.all_eq_true] at hT
  show ((ds.map metT).flatten).length ≤ 4
  match ds, hT, hl with
  | [], _, _ => simp
  | [a], hT, _ =>
    have := met_len (hT a (by simp))
    simp
    omega
  | [a, b], hT, _ =>
    have := met_len (hT a (by simp))
    have := met_len (hT b (by simp))
    simp
    omega
theorem metA_isT {h : PyData} (ha : isA h = true) : ∀ d ∈ metA h, isT d = true := fun d hd => by
  obtain ⟨x, ds, rfl, _, hT, _, hl⟩ := isA_tail ha
  rw [List.all_eq_true] at hT
  obtain ⟨l, hl, hd⟩ := List.mem_flatten.mp hd
  obtain ⟨t, ht, rfl⟩ := List.mem_map.mp hl
  have h1 := hT t ht
  rcases isT_shape h1 with ⟨i, rfl, _⟩ | ⟨s, es, rfl, hes, _⟩
  · rw [List.mem_singleton.mp hd]
    exact h1
  · exact List.all_eq_true.mp hes d hd
theorem metA_gn {n : Nat} {h : PyData} (hg : Gn n h) (ha : isA h = true) : ∀ d ∈ metA h, Gn n d := fun d hd => by
  obtain ⟨x, ds, rfl, _, hT, _, hl⟩ := isA_tail ha
  obtain ⟨m, rfl⟩ : ∃ m, n = m + 1 := by
    cases n with
    | zero => exact hg.elim
    | succ m => exact ⟨m, rfl⟩
  obtain ⟨l, hl, hd⟩ := List.mem_flatten.mp hd
  obtain ⟨t, ht, rfl⟩ := List.mem_map.mp hl
  have h1 := hg t (List.mem_cons_of_mem _ ht)
  rw [List.all_eq_true] at hT
  rcases isT_shape (hT t ht) with ⟨i, rfl, _⟩ | ⟨s, es, rfl, hes, _⟩
  · rw [List.mem_singleton.mp hd]
    exact h1.mono (by omega)
  · cases m with
    | zero => exact h1.elim
    | succ m => exact (h1 d (List.mem_cons_of_mem _ hd)).mono (by omega)
theorem gn_list {n : Nat} {ds : List PyData} (h : ∀ d ∈ ds, Gn n d) : Gn (n + 1) (.list ds) := h
theorem rngD_shaped (n : Nat) : SeqAt.shaped (.list (rngD n)) = true := by
  have e : rngD n = ((List.range n).map fun (i : Nat) => (i : Int)).map PyData.int := by
    unfold rngD
    rw [List.map_map]
    rfl
  rw [e]
  exact ints_sh _
theorem gn_shapedL {n : Nat} {ds : List PyData} (h : ∀ d ∈ ds, Gn n d) (hn : n + 1 ≤ 64) : SeqAt.shaped (.list ds) = true := Gn.shaped (n := n + 1) h hn
theorem gn_shapedT {n : Nat} {ds : List PyData} (h : ∀ d ∈ ds, Gn n d) (hn : n + 1 ≤ 64) : SeqAt.shaped (.tuple ds) = true := Gn.shaped (n := n + 1) h hn
theorem some_flat {f : PyData → Bool} : ∀ l : List PyData, ((l.map fun a => (tailD a).map fun t => some (PyData.bool (f t))).flatten.filterMap _root_.id) = ((l.map fun a => (tailD a).map f).flatten).map .bool
  | [] => rfl
  | a :: l => by
    rw [List.map_cons, List.flatten_cons, List.filterMap_append, some_flat l, List.map_cons, List.flatten_cons, List.map_append]
    congr 1
    rw [List.filterMap_map, List.map_map]
    show (tailD a).filterMap (fun t => some (PyData.bool (f t))) = _
    rw [← List.filterMap_eq_map]
    rfl
theorem flat_all {f : PyData → Bool} : ∀ l : List PyData, ((l.map fun a => (tailD a).map f).flatten).all _root_.id = l.all fun a => (tailD a).all f
  | [] => rfl
  | a :: l => by
    rw [List.map_cons, List.flatten_cons, List.all_append, flat_all l, List.all_cons, List.all_map]
    rfl
theorem tails_len : ∀ l : List PyData, (∀ a ∈ l, isA a = true) → ∀ f : PyData → Option PyData, ((l.map fun a => (tailD a).map f).flatten).length ≤ 2 * l.length
  | [], _, _ => by simp
  | a :: l, h, f => by
    have h1 := tails_len l (fun b hb => h b (List.mem_cons_of_mem _ hb)) f
    obtain ⟨x, ds, rfl, _, _, _, h2⟩ := isA_tail (h a List.mem_cons_self)
    rw [List.map_cons, List.flatten_cons, List.length_append, List.length_map, List.length_cons]
    show ds.length + _ ≤ _
    omega
def patF : List PyData → PyData → Prop := fun ds r => ∃ d n, ds = [d] ∧ Gn n d ∧ isT d = true ∧ r = .bool (isPat d)
def metF : List PyData → PyData → Prop := fun ds r => ∃ d n, ds = [d] ∧ Gn n d ∧ isA d = true ∧ r = .list (metA d)
def isHF : List PyData → PyData → Prop := fun ds r => ∃ d n, ds = [d] ∧ Gn n d ∧ n ≤ 40 ∧ nodes d ≤ 15000 ∧ r = .bool (isH d)
def isRF : List PyData → PyData → Prop := fun ds r => ∃ d n, ds = [d] ∧ Gn n d ∧ n ≤ 40 ∧ nodes d ≤ 15000 ∧ r = .bool (isR d)
section
variable {P : Program} {w : World} {K : PySem.W.Frag} {mg : Str → Option Value} {base : Heap}
theorem fn_is_pattern {f : Addr} {fd : FuncData} (F : Fun K "is_pattern" "is_pattern" s_is_pattern f fd) (B : Bare mg)  : FnG P w K mg base CX0 (1) f fd p_is_pattern (spD K p_is_pattern.length (PureR patF)) := by
  refine fn_okN F sc_is_pattern nm_is_pattern ns_is_pattern gn_is_pattern (fun X g nm ns gn xs om Qd hl hR => ?_)
  have hr := g.room
  obtain ⟨_, _⟩ := nm
  obtain ⟨n_term, _⟩ := ns
  obtain ⟨g_isinstance, g_int, g_all, _⟩ := gn
  have b_isinstance := g.bi g_isinstance B.isi PyProof.Rows.boot_isinstance
  have b_int := g.bt g_int B.int PyProof.Rows.boot_int
  have b_all := g.bi g_all B.all PyProof.Rows.boot_all
  obtain ⟨ds, r, rfl, rfl, ⟨d, n, rfl, hd, hT, rfl⟩, hq⟩ := hR
  show WS _ _ ⟨[.sh d, .no], []⟩ _
  rcases isT_shape hT with ⟨i, rfl, _⟩ | ⟨s, ds, rfl, hes, hl⟩
  · repeat walk_at "e"
    exact fin_sh rfl hq
  · have hq : Qd (.sh (.bool (ds.all isI))) [] := hq
    repeat walk_at "e"
    with_reducible refine we_lcF (own := [("part", 1)]) (g := gName 1) g.nd ?lc1 ?lc2 ?_ g.calm ?lc4
    case lc4 => exact fun _ => rfl
    case lc1 => exact g.blk (by decide +kernel)
    case lc2 => exact fun s H C cl fp => g.bpg (by decide +kernel)
    refine wi_tup ?_
    repeat walk_at "e"
    rw [cut_tail]
    refine ⟨_, rfl, ?_⟩
    refine lcd_map ((ds.map isI).map .bool) (by simp) (by rw [List.length_map]; omega) trivial (fun i y v hy hv => ?_) ?_
    · rw [List.getElem?_map] at hy
      obtain ⟨y, hy2, rfl⟩ := Option.map_eq_some_iff.mp hy
      rw [List.map_map, List.getElem?_map, hy2] at hv
      cases hv
      refine gd_name (by simp) ?_
      intro s H C cl fp
      refine g.inB [("part", 1)] ["isinstance", "int"] (by decide +kernel) (by decide +kernel) fun nb gb => ?_
      obtain ⟨_, _⟩ := nb
      show WE _ _ ⟨[_, _], _⟩ _
      obtain ⟨h_isinstance, h_int, _⟩ := gb
      have bb_isinstance := g.bbi h_isinstance B.isi PyProof.Rows.boot_isinstance
      have bb_int := g.bbt h_int B.int PyProof.Rows.boot_int
      rcases isT_shape (List.all_eq_true.mp hes y (List.mem_of_getElem? hy2)) with ⟨i, rfl, _⟩ | ⟨s, ds, rfl, _, _⟩
      · repeat walk_at "e"
        exact ⟨rfl, rfl⟩
      · repeat walk_at "e"
        exact ⟨rfl, rfl⟩
    · repeat walk_at "e"
      refine cd_all (bs := ds.map isI) (bls_map _) ?_ g.calm
      rw [show (ds.map isI).all _root_.id = ds.all isI by rw [List.all_map]; rfl]
      repeat walk_at "e"
      exact fin_sh rfl hq
theorem fn_variables_as_they_stand {f : Addr} {fd : FuncData} (F : Fun K "variables_as_they_stand" "variables_as_they_stand" s_variables_as_they_stand f fd) (B : Bare mg)  : FnG P w K mg base CX0 (1) f fd p_variables_as_they_stand (spD K p_variables_as_they_stand.length (PureR metF)) := by
  refine fn_okN F sc_variables_as_they_stand nm_variables_as_they_stand ns_variables_as_they_stand gn_variables_as_they_stand (fun X g nm ns gn xs om Qd hl hR => ?_)
  have hr := g.room
  obtain ⟨_, _, _, _⟩ := nm
  obtain ⟨n_head, n_found, n_term, _⟩ := ns
  obtain ⟨g_isinstance, g_int, g_list, _⟩ := gn
  have b_isinstance := g.bi g_isinstance B.isi PyProof.Rows.boot_isinstance
  have b_int := g.bt g_int B.int PyProof.Rows.boot_int
  have b_list := g.bt g_list B.list PyProof.Rows.boot_list
  obtain ⟨ds, r, rfl, rfl, ⟨d, n, rfl, hd, hA, rfl⟩, hq⟩ := hR
  obtain ⟨x, ds, rfl, hN, hT, hl1, hl2⟩ := isA_tail hA
  have hT := List.all_eq_true.mp hT
  have hq : Qd (.sh (.list ((ds.map metT).flatten))) [] := hq
  show WS _ _ ⟨[.sh (.tuple (x :: ds)), .no, .no], []⟩ _
  repeat walk_at "e"
  refine we_lst ?_
  repeat walk_at "e"
  refine w1_for (g := gName 2) (vs := [2]) (pgN n_term) ?_ g.calm g.po
  refine wi_tup ?_
  repeat walk_at "e"
  rw [cut_tail]
  refine ⟨_, rfl, ?_⟩
  refine ⟨fun i z => ∃ (x_term : Sl), z = ⟨[.sh (.tuple (x :: ds)), .ob 0, x_term], [.lst ((((ds.take i).map metT).flatten).map .sh)]⟩, ?_, ?_, ?_, ?_⟩
  · exact ⟨_, rfl⟩
  · exact fun _ _ _ _ => trivial
  · rintro i y z hy ⟨x_term, rfl⟩
    rw [List.getElem?_map] at hy
    obtain ⟨t, ht, rfl⟩ := Option.map_eq_some_iff.mp hy
    have hts : ds.take (i + 1) = ds.take i ++ [t] := by rw [List.take_succ, ht]; rfl
    have hlen : ∀ l : List PyData, (∀ t ∈ l, isT t = true) → ((l.map metT).flatten).length ≤ 2 * l.length := fun l => by
      induction l with
      | nil => intro _; simp
      | cons a l ih =>
        intro h
        have h1 := ih fun b hb => h b (List.mem_cons_of_mem _ hb)
        have h2 := met_len (h a List.mem_cons_self)
        rw [List.map_cons, List.flatten_cons, List.length_append, List.length_cons]
        omega
    have hl3 := hlen (ds.take i) fun t ht => hT t (List.mem_of_mem_take ht)
    rw [List.length_take] at hl3
    have hl4 : (((((ds.take i).map metT).flatten).map Sl.sh).length) ≤ 4 := by
      rw [List.length_map]
      omega
    have hfin : (((ds.take i).map metT).flatten).map Sl.sh ++ (metT t).map Sl.sh = (((ds.take (i + 1)).map metT).flatten).map Sl.sh := by
      rw [hts, List.map_append, List.flatten_append, List.map_append]
      simp
    refine gd_name (by simp) ?_
    rcases isT_shape (hT t (List.mem_of_getElem? ht)) with ⟨j, rfl, _⟩ | ⟨s, es, rfl, _, hel⟩
    · repeat walk_at "d"
      refine mo_extendF rfl (by rw [List.length_singleton]; omega) ?_
      repeat walk_at "d"
      refine loop_nx ⟨?_, ?eq1⟩
      case eq1 =>
        rw [← hfin]
        rfl
    · repeat walk_at "d"
      rw [cut_tail]
      refine mo_extendF rfl (by omega) ?_
      repeat walk_at "d"
      refine loop_nx ⟨?_, ?eq2⟩
      case eq2 =>
        rw [← hfin]
        rfl
  · rintro z ⟨x_term, rfl⟩
    rw [List.length_map, List.take_length]
    repeat walk_at "d"
    exact fin_frz (Nat.le_refl _) rfl rfl (allSh_map _) hq
theorem fn_is_head {f : Addr} {fd : FuncData} (F : Fun K "is_head" "is_head" s_is_head f fd) (B : Bare mg) (D_variables_as_they_stand : Df P w K mg base "variables_as_they_stand" (1) p_variables_as_they_stand (PureR metF)) (D_is_atom : Df P w K mg base "is_atom" (3) p_is_atom (PureR isAF)) (D_is_pattern : Df P w K mg base "is_pattern" (1) p_is_pattern (PureR patF)) : FnG P w K mg base CX0 (4) f fd p_is_head (spD K p_is_head.length (PureR isHF)) := by
  refine fn_okN F sc_is_head nm_is_head ns_is_head gn_is_head (fun X g nm ns gn xs om Qd hl hR => ?_)
  have hr := g.room
  obtain ⟨_, _, _⟩ := nm
  obtain ⟨n_thing, n_told, _⟩ := ns
  obtain ⟨g_is_atom, g_all, g_variables_as_they_stand, g_list, g_range, g_len, _⟩ := gn
  have c_is_atom := g.cf g_is_atom D_is_atom
  have b_all := g.bi g_all B.all PyProof.Rows.boot_all
  have c_variables_as_they_stand := g.cf g_variables_as_they_stand D_variables_as_they_stand
  have b_list := g.bt g_list B.list PyProof.Rows.boot_list
  have b_len := g.bi g_len B.len PySem.boot_len
  obtain ⟨ds, r, rfl, rfl, ⟨d, n, rfl, hd, hn, hz, rfl⟩, hq⟩ := hR
  show WS _ _ ⟨[.sh d, .no, .no], []⟩ _
  have hq : Qd (.sh (.bool (isA d && rngB 0 (metA d)))) [] := hq
  repeat walk_at "e"
  refine ⟨_, _, rfl, ⟨d, n, rfl, hd, hn, hz, rfl⟩, rfl, ?_⟩
  cases hA : isA d with
  | false =>
    rw [hA] at hq
    repeat walk_at "e"
    exact fin_sh rfl hq
  | true =>
    rw [hA, Bool.true_and] at hq
    have hpm := pats_met hA
    have hml := metA_len hA
    have hmg := metA_gn hd hA
    have hmF : metF [d] (.list (metA d)) := ⟨d, n, rfl, hd, hA, rfl⟩
    have hpats : ∀ t ∈ tailD d, patF [t] (.bool (isPat t)) := fun t ht => by
      obtain ⟨x, ds, rfl, _, hT, _⟩ := isA_tail hA
      cases n with
      | zero => exact hd.elim
      | succ m => exact ⟨t, m, rfl, hd t (List.mem_cons_of_mem _ ht), List.all_eq_true.mp hT t ht, rfl⟩
    obtain ⟨x, ds, rfl, hN, hT, hl1, hl2⟩ := isA_tail hA
    have hpm : ds.all isPat = (metA (.tuple (x :: ds))).all isI := hpm
    repeat walk_at "e"
    with_reducible refine we_lcF (own := [("term", 2)]) (g := gName 2) g.nd ?lc1 ?lc2 ?_ g.calm ?lc4
    case lc4 => exact fun _ => rfl
    case lc1 => exact g.blk (by decide +kernel)
    case lc2 => exact fun s H C cl fp => g.bpg (by decide +kernel)
    refine wi_tup ?_
    repeat walk_at "e"
    rw [cut_tail]
    refine ⟨_, rfl, ?_⟩
    refine lcd_map ((ds.map isPat).map .bool) (by simp) (by rw [List.length_map]; omega) trivial (fun i y v hy hv => ?_) ?_
    · rw [List.getElem?_map] at hy
      obtain ⟨y, hy2, rfl⟩ := Option.map_eq_some_iff.mp hy
      rw [List.map_map, List.getElem?_map, hy2] at hv
      cases hv
      refine gd_name (by simp) ?_
      intro s H C cl fp
      refine g.inB [("term", 2)] ["is_pattern"] (by decide +kernel) (by decide +kernel) fun nb gb => ?_
      obtain ⟨_, _⟩ := nb
      show WE _ _ ⟨[_, _, _], _⟩ _
      obtain ⟨h_is_pattern, _⟩ := gb
      have cb_is_pattern := g.bcf h_is_pattern D_is_pattern
      repeat walk_at "e"
      exact ⟨_, _, rfl, hpats y (List.mem_of_getElem? hy2), rfl, rfl, rfl⟩
    repeat walk_at "e"
    refine cd_all (bs := ds.map isPat) (bls_map _) ?_ g.calm
    rw [show (ds.map isPat).all _root_.id = ds.all isPat by rw [List.all_map]; rfl, hpm]
    cases hI : (metA (.tuple (x :: ds))).all isI with
    | false =>
      have e : rngB 0 (metA (.tuple (x :: ds))) = false := by
        rw [← Bool.not_eq_true]
        intro h
        rw [rngB_int _ _ h] at hI
        cases hI
      rw [e] at hq
      repeat walk_at "e"
      exact fin_sh rfl hq
    | true =>
      repeat walk_at "e"
      refine ⟨_, _, rfl, hmF, rfl, ?_⟩
      repeat walk_at "e"
      refine ⟨_, rfl, by omega, ?_⟩
      refine rd_eqD (room_fit hr) (gn_shapedL hmg (by omega)) (rngD_shaped _) ?_
      rw [rng_eqv hI]
      exact fin_sh rfl hq
theorem fn_is_rule {f : Addr} {fd : FuncData} (F : Fun K "is_rule" "is_rule" s_is_rule f fd) (B : Bare mg) (D_variables_as_they_stand : Df P w K mg base "variables_as_they_stand" (1) p_variables_as_they_stand (PureR metF)) (D_is_head : Df P w K mg base "is_head" (4) p_is_head (PureR isHF)) (D_is_atom : Df P w K mg base "is_atom" (3) p_is_atom (PureR isAF)) (I_MOST_BODY : ∃ t, mg "MOST_BODY" = some (.int 3 t)) : FnG P w K mg base CX0 (5) f fd p_is_rule (spD K p_is_rule.length (PureR isRF)) := by
  refine fn_okN F sc_is_rule nm_is_rule ns_is_rule gn_is_rule (fun X g nm ns gn xs om Qd hl hR => ?_)
  have hr := g.room
  obtain ⟨_, _, _, _, _⟩ := nm
  obtain ⟨n_thing, n_head, n_body, n_many, _⟩ := ns
  obtain ⟨g_isinstance, g_tuple, g_len, g_is_head, g_MOST_BODY, g_all, g_variables_as_they_stand, _⟩ := gn
  have b_isinstance := g.bi g_isinstance B.isi PyProof.Rows.boot_isinstance
  have b_tuple := g.bt g_tuple B.tup PyProof.Rows.boot_tuple
  have b_len := g.bi g_len B.len PySem.boot_len
  have c_is_head := g.cf g_is_head D_is_head
  have b_all := g.bi g_all B.all PyProof.Rows.boot_all
  have c_variables_as_they_stand := g.cf g_variables_as_they_stand D_variables_as_they_stand
  obtain ⟨t1, hM1⟩ := I_MOST_BODY
  rw [← g.mg] at hM1
  obtain ⟨ds, r, rfl, rfl, ⟨d, n, rfl, hd, hn, hz, rfl⟩, hq⟩ := hR
  show WS _ _ ⟨[.sh d, .no, .no, .no, .no, .no], []⟩ _
  cases d with
  | dict _ => cases n <;> exact hd.elim
  | none =>
    repeat walk_at "e"
    exact fin_sh rfl hq
  | bool b =>
    repeat walk_at "e"
    exact fin_sh rfl hq
  | int i =>
    repeat walk_at "e"
    exact fin_sh rfl hq
  | list ds =>
    repeat walk_at "e"
    exact fin_sh rfl hq
  | str s =>
    repeat walk_at "e"
    exact fin_sh rfl hq
  | tuple ds =>
    match ds, hd, hz, hq with
    | [], hd, hz, hq =>
      repeat walk_at "e"
      exact fin_sh rfl hq
    | [a], hd, hz, hq =>
      repeat walk_at "e"
      exact fin_sh rfl hq
    | a :: b :: c :: r, hd, hz, hq =>
      repeat walk_at "e"
      exact fin_sh rfl hq
    | [h, b], hd, hz, hq =>
      have hq : Qd (.sh (.bool (isH h && bodB (metA h).length b))) [] := hq
      obtain ⟨m, rfl⟩ : ∃ m, n = m + 1 := by
        cases n with
        | zero => exact hd.elim
        | succ m => exact ⟨m, rfl⟩
      have hh := hd h (by simp)
      have hb := hd b (by simp)
      simp only [nodes, nodesL] at hz
      repeat walk_at "e"
      refine ⟨_, _, rfl, ⟨h, m, rfl, hh, by omega, by omega, rfl⟩, rfl, ?_⟩
      cases hH : isH h with
      | false =>
        rw [hH] at hq
        repeat walk_at "e"
        exact fin_sh rfl hq
      | true =>
        rw [hH, Bool.true_and] at hq
        have hA : isA h = true := by
          unfold isH at hH
          rw [Bool.and_eq_true] at hH
          exact hH.1
        have hml := metA_len hA
        repeat walk_at "e"
        refine w1_asgT (g := gTup X.K 2 (gNames [1, 2])) (vs := [1, 2]) (pg_tup g.calm (pgs_cons (pgN n_head) (pgs_cons (pgN n_body) pgs_nil))) ?_ rfl rfl rfl
        repeat walk_at "e"
        refine gd_tup rfl (by simp) rfl rfl ?_
        refine seq_nx ?_
        show WS _ _ ⟨[.sh (.tuple [h, b]), .sh h, .sh b, .no, .no, .no], []⟩ _
        cases b with
        | dict _ => cases m <;> exact hb.elim
        | none =>
          repeat walk_at "e"
          exact fin_sh rfl hq
        | bool b =>
          repeat walk_at "e"
          exact fin_sh rfl hq
        | int i =>
          repeat walk_at "e"
          exact fin_sh rfl hq
        | list ds =>
          repeat walk_at "e"
          exact fin_sh rfl hq
        | str s =>
          repeat walk_at "e"
          exact fin_sh rfl hq
        | tuple as =>
          have hq : Qd (.sh (.bool (decide (as.length ≤ 3) && (as.all isA && as.all fun a => (tailD a).all (ltI (metA h).length))))) [] := hq
          simp only [nodes] at hz
          repeat walk_at "e"
          by_cases h3 : as.length ≤ 3
          · rw [decide_eq_true h3, Bool.true_and] at hq
            rw [decide_eq_false (show ¬ ((as.length : Nat) : Int) > 3 by omega)]
            have hga : ∀ a ∈ as, isAF [a] (.bool (isA a)) := fun a ha => by
              cases m with
              | zero => exact hb.elim
              | succ k => exact ⟨a, k, rfl, hb a ha, by omega, by have := nodesL_mem ha; omega, rfl⟩
            repeat walk_at "e"
            with_reducible refine we_lcF (own := [("atom", 4)]) (g := gName 4) g.nd ?lc1 ?lc2 ?_ g.calm ?lc4
            case lc4 => exact fun _ => rfl
            case lc1 => exact g.blk (by decide +kernel)
            case lc2 => exact fun s H C cl fp => g.bpg (by decide +kernel)
            refine wi_tup ?_
            repeat walk_at "e"
            refine ⟨_, rfl, ?_⟩
            refine lcd_map ((as.map isA).map .bool) (by simp) (by rw [List.length_map]; omega) trivial (fun i y v hy hv => ?_) ?_
            · rw [List.getElem?_map] at hy
              obtain ⟨y, hy2, rfl⟩ := Option.map_eq_some_iff.mp hy
              rw [List.map_map, List.getElem?_map, hy2] at hv
              cases hv
              refine gd_name (by simp) ?_
              intro s H C cl fp
              refine g.inB [("atom", 4)] ["is_atom"] (by decide +kernel) (by decide +kernel) fun nb gb => ?_
              obtain ⟨_, _⟩ := nb
              show WE _ _ ⟨[_, _, _, _, _, _], _⟩ _
              obtain ⟨h_is_atom, _⟩ := gb
              have cb_is_atom := g.bcf h_is_atom D_is_atom
              repeat walk_at "e"
              exact ⟨_, _, rfl, hga y (List.mem_of_getElem? hy2), rfl, rfl, rfl⟩
            repeat walk_at "e"
            refine cd_all (bs := as.map isA) (bls_map _) ?_ g.calm
            rw [show (as.map isA).all _root_.id = as.all isA by rw [List.all_map]; rfl]
            cases hAll : as.all isA with
            | false =>
              rw [hAll] at hq
              repeat walk_at "e"
              exact fin_sh rfl hq
            | true =>
              rw [hAll, Bool.true_and] at hq
              repeat walk_at "e"
              refine ⟨_, _, rfl, ⟨h, m, rfl, hh, hA, rfl⟩, rfl, ?_⟩
              repeat walk_at "e"
              have hAs := List.all_eq_true.mp hAll
              have htl := tails_len as hAs
              with_reducible refine we_lc2F (own := [("atom", 4), ("term", 5)]) (vs1 := [5]) (g := gName 4) (g1 := gName 5) g.nd ?lc1 ?lc0 ?lc2 ?lc3 g.calm ?_ ?lc4 ?lc5
              case lc0 => exact by simp
              case lc1 => exact g.blk (by decide +kernel)
              case lc2 => exact fun s H C cl fp => g.bpg (by decide +kernel)
              case lc3 => exact fun s H C cl fp => g.bpg (by decide +kernel)
              case lc4 => exact fun _ => rfl
              case lc5 => exact fun _ _ => rfl
              refine wi_tup ?_
              repeat walk_at "e"
              refine ⟨_, rfl, trivial, as.map (fun a => (tailD a).map fun t => some (.bool (ltI (metA h).length t))), by simp, ?_, fun i y ds hy hds => ?_, ?_⟩
              · have := htl fun t => some (.bool (ltI (metA h).length t))
                omega
              · rw [List.getElem?_map] at hy
                obtain ⟨a, ha, rfl⟩ := Option.map_eq_some_iff.mp hy
                rw [List.getElem?_map, ha] at hds
                cases hds
                obtain ⟨x, es, rfl, _, hes, _⟩ := isA_tail (hAs a (List.mem_of_getElem? ha))
                refine gd_name (by simp) ?_
                intro s H C cl fp
                refine g.inBI [("atom", 4)] [] (by decide +kernel) (by decide +kernel) fun nb gb => ?_
                obtain ⟨_, _⟩ := nb
                show WI _ _ _ ⟨[_, _, _, _, _, _], _⟩ _
                refine wi_tup ?_
                repeat walk_at "e"
                rw [cut_tail]
                refine ⟨_, rfl, rfl, by simp [tailD], trivial, rfl, fun j y1 d hy1 hd1 => ?_⟩
                rw [List.getElem?_map] at hy1
                obtain ⟨t, ht, rfl⟩ := Option.map_eq_some_iff.mp hy1
                have hd2 : (es.map fun t => some (PyData.bool (ltI (metA h).length t)))[j]? = some d := hd1
                rw [List.getElem?_map, ht] at hd2
                cases hd2
                refine gd_name (by simp) ?_
                intro s0 H0 C0 cl0 fp0
                refine ⟨rfl, rfl, fun e he => ?_⟩
                cases he
                intro s H C cl fp
                refine g.inB [("term", 5), ("many", 3)] ["isinstance", "int"] (by decide +kernel) (by decide +kernel) fun nb gb => ?_
                obtain ⟨_, _, _⟩ := nb
                show WE _ _ ⟨[_, _, _, _, _, _], _⟩ _
                obtain ⟨h_isinstance, h_int, _⟩ := gb
                have bb_isinstance := g.bbi h_isinstance B.isi PyProof.Rows.boot_isinstance
                have bb_int := g.bbt h_int B.int PyProof.Rows.boot_int
                rcases isT_shape (List.all_eq_true.mp hes t (List.mem_of_getElem? ht)) with ⟨j, rfl, _⟩ | ⟨s, ds, rfl, _, _⟩
                · repeat walk_at "e"
                  exact ⟨rfl, rfl⟩
                · repeat walk_at "e"
                  exact ⟨rfl, rfl⟩
              rw [some_flat]
              repeat walk_at "e"
              refine cd_all (bs := (as.map fun a => (tailD a).map (ltI (metA h).length)).flatten) (bls_map _) ?_ g.calm
              rw [flat_all]
              repeat walk_at "e"
              exact fin_sh rfl hq
          · rw [decide_eq_false h3] at hq
            rw [decide_eq_true (show ((as.length : Nat) : Int) > 3 by omega)]
            repeat walk_at "e"
            exact fin_sh rfl hq
end

/-! ### the law's own looks -/
theorem in_0sf (s : Str) : Dl.inD (.str s) [.str "0", .str "s", .str "f"] = (ar s).isSome := by
  unfold Dl.inD ar
  simp only [List.any_cons, List.any_nil, eqv_str, Bool.or_false]
  by_cases h0 : s = "0"
  · subst h0
    decide +kernel
  by_cases h1 : s = "s"
  · subst h1
    decide +kernel
  by_cases h2 : s = "f"
  · subst h2
    decide +kernel
  rw [if_neg h0, if_neg h1, if_neg h2, decide_eq_false (fun e => h0 e.symm), decide_eq_false (fun e => h1 e.symm), decide_eq_false (fun e => h2 e.symm)]
  rfl
theorem ar_place {s : Str} {a : Nat} (h : ar s = some a) : (["0", "s", "f"] : List Str)[a]? = some s ∧ ∀ m, m < a → (["0", "s", "f"] : List Str)[m]? ≠ some s := by
  rcases ar_cases h with ⟨rfl, rfl⟩ | ⟨rfl, rfl⟩ | ⟨rfl, rfl⟩
  · exact ⟨rfl, fun m hm => by omega⟩
  · refine ⟨rfl, fun m hm => ?_⟩
    obtain rfl : m = 0 := by omega
    decide +kernel
  · refine ⟨rfl, fun m hm => ?_⟩
    have : m = 0 ∨ m = 1 := by omega
    rcases this with rfl | rfl <;> decide +kernel
theorem isT_tupI {d : PyData} {ds : List PyData} (h : d = .tuple ds) (hT : isT d = true) : ∃ s es, ds = .str s :: es := by
  subst h
  rcases isT_shape hT with ⟨i, e, _⟩ | ⟨s, es, e, _⟩
  · cases e
  · injection e with e
    exact ⟨s, es, e⟩
theorem in_rng {i : Int} {n : Nat} (h0 : 0 ≤ i) : Dl.inD (.int i) (rngD n) = decide (i < (n : Int)) := by
  unfold Dl.inD rngD
  rw [Bool.eq_iff_iff, List.any_eq_true, decide_eq_true_eq]
  constructor
  · rintro ⟨d, hd, he⟩
    obtain ⟨j, hj, rfl⟩ := List.mem_map.mp hd
    rw [eqv_int, decide_eq_true_eq] at he
    have := List.mem_range.mp hj
    omega
  · intro h
    refine ⟨.int ((i.toNat : Nat) : Int), List.mem_map.mpr ⟨i.toNat, List.mem_range.mpr (by omega), rfl⟩, ?_⟩
    rw [eqv_int, decide_eq_true_eq]
    omega
theorem rngB_list : ∀ (l : List PyData) (k : Nat), rngB k l = true → l = (List.range l.length).map fun (i : Nat) => .int ((k + i : Nat) : Int)
  | [], _, _ => rfl
  | .int i :: r, k, h => by
    simp only [rngB, Bool.and_eq_true, decide_eq_true_eq] at h
    have ih := rngB_list r (k + 1) h.2
    rw [List.length_cons, List.range_succ_eq_map, List.map_cons, List.map_map]
    congr 1
    · rw [h.1]
      rfl
    · refine ih.trans (List.map_congr_left fun j _ => ?_)
      show PyData.int ((k + 1 + j : Nat) : Int) = PyData.int ((k + (j + 1) : Nat) : Int)
      rw [show k + (j + 1) = k + 1 + j by omega]
  | .none :: r, k, h => by simp [rngB] at h
  | .bool _ :: r, k, h => by simp [rngB] at h
  | .str _ :: r, k, h => by simp [rngB] at h
  | .list _ :: r, k, h => by simp [rngB] at h
  | .tuple _ :: r, k, h => by simp [rngB] at h
  | .dict _ :: r, k, h => by simp [rngB] at h
theorem rng_list {l : List PyData} (h : rngB 0 l = true) : l = rngD l.length := by
  have := rngB_list l 0 h
  refine this.trans ?_
  unfold rngD
  refine List.map_congr_left fun i _ => ?_
  rw [Nat.zero_add]
section
variable {P : Program} {w : World} {K : PySem.W.Frag} {mg : Str → Option Value} {base : Heap}
theorem fn_own_is_name {f : Addr} {fd : FuncData} (F : Fun K "_law_is_name" "_law_is_name" s_own_is_name f fd) (B : Bare mg)  : FnG P w K mg base CX0 (1) f fd p_own_is_name (spD K p_own_is_name.length (PureR isNF)) := by
  refine fn_okN F sc_own_is_name nm_own_is_name ns_own_is_name gn_own_is_name (fun X g nm ns gn xs om Qd hl hR => ?_)
  have hr := g.room
  obtain ⟨_, _⟩ := nm
  obtain ⟨n_thing, _⟩ := ns
  obtain ⟨g_isinstance, g_str, g_len, g_all, _⟩ := gn
  have b_isinstance := g.bi g_isinstance B.isi PyProof.Rows.boot_isinstance
  have b_str := g.bt g_str B.str PyProof.Rows.boot_str
  have b_len := g.bi g_len B.len PySem.boot_len
  have b_all := g.bi g_all B.all PyProof.Rows.boot_all
  obtain ⟨ds, r, rfl, rfl, ⟨d, n, rfl, hd, rfl⟩, hq⟩ := hR
  show WS _ _ ⟨[.sh d, .no], []⟩ _
  cases d with
  | dict _ => cases n <;> exact hd.elim
  | none =>
    repeat walk_at "e"
    exact fin_sh rfl hq
  | bool b =>
    repeat walk_at "e"
    exact fin_sh rfl hq
  | int i =>
    repeat walk_at "e"
    exact fin_sh rfl hq
  | list ds =>
    repeat walk_at "e"
    exact fin_sh rfl hq
  | tuple ds =>
    repeat walk_at "e"
    exact fin_sh rfl hq
  | str s =>
    have hsz := gn_size hd
    have hs4 := gn_size2 hd
    have hsl : s.cps.toList.length = s.length := Array.length_toList
    have hq : Qd (.sh (.bool (decide (1 ≤ s.length) && (decide (s.length ≤ 6) && (!decide (s = "if") && s.cps.toList.all lowC))))) [] := hq
    repeat walk_at "e"
    by_cases h3 : s = "if"
    · rw [decide_eq_true h3] at hq ⊢
      rw [show (decide (1 ≤ s.length) && (decide (s.length ≤ 6) && (!true && s.cps.toList.all lowC))) = false by simp] at hq
      repeat walk_at "e"
      exact fin_sh rfl hq
    rw [decide_eq_false h3] at hq ⊢
    repeat walk_at "e"
    refine wt_chain ?_
    repeat walk_at "e"
    refine ⟨_, rfl, fun h => ?_, fun h => ?_⟩
    · have h : decide (1 ≤ s.length) = true := decide_eq_true (by have := of_decide_eq_true h; omega)
      rw [h, Bool.true_and] at hq
      repeat walk_at "e"
      by_cases h2 : s.length ≤ 6
      · rw [decide_eq_true h2, Bool.true_and] at hq
        rw [decide_eq_true (show ((s.length : Nat) : Int) ≤ 6 by omega)]
        repeat walk_at "e"
        with_reducible refine we_lcF (own := [("_law_sign", 1)]) (g := gName 1) g.nd ?lc1 ?lc2 ?_ g.calm ?lc4
        case lc4 => exact fun _ => rfl
        case lc1 => exact g.blk (by decide +kernel)
        case lc2 => exact fun s H C cl fp => g.bpg (by decide +kernel)
        refine wi_str ?_
        repeat walk_at "e"
        refine ⟨_, rfl, ?_⟩
        refine lcd_map ((s.cps.toList.map lowC).map .bool) (by simp [signsD]) (by unfold signsD; rw [List.length_map]; omega) trivial (fun i y v hy hv => ?_) ?_
        · unfold signsD at hy
          rw [List.getElem?_map] at hy
          obtain ⟨c, hc, rfl⟩ := Option.map_eq_some_iff.mp hy
          rw [List.map_map, List.getElem?_map, hc] at hv
          cases hv
          refine gd_name (by simp) ?_
          intro s H C cl fp
          refine g.inB [("_law_sign", 1)] [] (by decide +kernel) (by decide +kernel) fun nb gb => ?_
          obtain ⟨_, _⟩ := nb
          show WE _ _ ⟨[_, _], _⟩ _
          repeat walk_at "e"
          refine rd_inSg ?_
          rw [show decide (c ∈ ("abcdefghijklmnopqrstuvwxyz" : Str).cps.toList) = lowC c from abc_mem c]
          exact ⟨rfl, rfl⟩
        repeat walk_at "e"
        refine cd_all (bs := s.cps.toList.map lowC) (bls_map _) ?_ g.calm
        rw [List.all_map]
        repeat walk_at "e"
        exact fin_sh rfl hq
      · rw [decide_eq_false h2] at hq
        rw [decide_eq_false (show ¬ ((s.length : Nat) : Int) ≤ 6 by omega)]
        repeat walk_at "e"
        exact fin_sh rfl hq
    · have h : decide (1 ≤ s.length) = false := decide_eq_false (by have := of_decide_eq_false h; omega)
      rw [h] at hq
      repeat walk_at "e"
      exact fin_sh rfl hq
theorem fn_own_is_variable {f : Addr} {fd : FuncData} (F : Fun K "_law_is_variable" "_law_is_variable" s_own_is_variable f fd) (B : Bare mg)  : FnG P w K mg base CX0 (1) f fd p_own_is_variable (spD K p_own_is_variable.length (PureR isVF)) := by
  refine fn_okN F sc_own_is_variable nm_own_is_variable ns_own_is_variable gn_own_is_variable (fun X g nm ns gn xs om Qd hl hR => ?_)
  have hr := g.room
  obtain ⟨_, _⟩ := nm
  obtain ⟨n_thing, _⟩ := ns
  obtain ⟨g_isinstance, g_int, g_bool, _⟩ := gn
  have b_isinstance := g.bi g_isinstance B.isi PyProof.Rows.boot_isinstance
  have b_int := g.bt g_int B.int PyProof.Rows.boot_int
  have b_bool := g.bt g_bool B.bool PyProof.Rows.boot_bool
  obtain ⟨ds, r, rfl, rfl, ⟨d, n, rfl, hd, rfl⟩, hq⟩ := hR
  show WS _ _ ⟨[.sh d], []⟩ _
  cases d with
  | dict _ => cases n <;> exact hd.elim
  | none =>
    repeat walk_at "e"
    exact fin_sh rfl hq
  | bool b =>
    repeat walk_at "e"
    exact fin_sh rfl hq
  | str s =>
    repeat walk_at "e"
    exact fin_sh rfl hq
  | list ds =>
    repeat walk_at "e"
    exact fin_sh rfl hq
  | tuple ds =>
    repeat walk_at "e"
    exact fin_sh rfl hq
  | int i =>
    have hq : Qd (.sh (.bool (decide (0 ≤ i) && decide (i ≤ 99)))) [] := hq
    repeat walk_at "e"
    refine we_chain ?_
    repeat walk_at "e"
    refine ⟨_, rfl, fun h => ?_, fun h => ?_⟩
    · repeat walk_at "e"
      rw [h, Bool.true_and] at hq
      exact fin_sh rfl hq
    · rw [h] at hq
      exact fin_sh rfl hq
theorem step_own_is_term {f : Addr} {fd : FuncData} (F : Fun K "_law_is_term" "_law_is_term" s_own_is_term f fd) (B : Bare mg) (D_own_is_variable : Df P w K mg base "_law_is_variable" (1) p_own_is_variable (PureR isVF)) (n : Nat) (hrec : ∀ m, m < n → Df P w K mg base "_law_is_term" (m + 2) p_own_is_term (PureR (treeQ m))) : FnG P w K mg base CX0 (n + 2) f fd p_own_is_term (spD K p_own_is_term.length (PureR (treeQ n))) := by
  refine fn_okN F sc_own_is_term nm_own_is_term ns_own_is_term gn_own_is_term (fun X g nm ns gn xs om Qd hl hR => ?_)
  have hr := g.room
  obtain ⟨_, _⟩ := nm
  obtain ⟨n_thing, _⟩ := ns
  obtain ⟨g_isinstance, g_tuple, g_own_is_variable, g_len, g_str, g_all, _⟩ := gn
  have b_isinstance := g.bi g_isinstance B.isi PyProof.Rows.boot_isinstance
  have b_tuple := g.bt g_tuple B.tup PyProof.Rows.boot_tuple
  have c_own_is_variable := g.cf g_own_is_variable D_own_is_variable
  have b_len := g.bi g_len B.len PySem.boot_len
  have b_str := g.bt g_str B.str PyProof.Rows.boot_str
  have b_all := g.bi g_all B.all PyProof.Rows.boot_all
  obtain ⟨ds, r, rfl, rfl, ⟨d, rfl, hd, hn, hz, rfl⟩, hq⟩ := hR
  have hu1 := room_one hr
  show WS _ _ ⟨[.sh d, .no], []⟩ _
  have hnt : isV d = isT d → Qd (.sh (.bool (isV d))) [] := fun h => by
    rw [h]
    exact hq
  cases d with
  | dict _ => cases n <;> exact hd.elim
  | none =>
    repeat walk_at "e"
    refine ⟨_, _, rfl, ⟨_, n, rfl, hd, rfl⟩, rfl, ?_⟩
    repeat walk_at "e"
    exact fin_sh rfl (hnt (by simp [isV, isT]))
  | bool b =>
    repeat walk_at "e"
    refine ⟨_, _, rfl, ⟨_, n, rfl, hd, rfl⟩, rfl, ?_⟩
    repeat walk_at "e"
    exact fin_sh rfl (hnt (by simp [isV, isT]))
  | str s =>
    repeat walk_at "e"
    refine ⟨_, _, rfl, ⟨_, n, rfl, hd, rfl⟩, rfl, ?_⟩
    repeat walk_at "e"
    exact fin_sh rfl (hnt (by simp [isV, isT]))
  | list ds =>
    repeat walk_at "e"
    refine ⟨_, _, rfl, ⟨_, n, rfl, hd, rfl⟩, rfl, ?_⟩
    repeat walk_at "e"
    exact fin_sh rfl (hnt (by simp [isV, isT]))
  | int i =>
    repeat walk_at "e"
    refine ⟨_, _, rfl, ⟨_, n, rfl, hd, rfl⟩, rfl, ?_⟩
    repeat walk_at "e"
    exact fin_sh rfl (hnt (by simp [isV, isT]))
  | tuple ds =>
    cases ds with
    | nil =>
      repeat walk_at "e"
      exact fin_sh rfl (by simpa [isT, arOk] using hq)
    | cons e ds =>
      obtain ⟨m, rfl⟩ : ∃ m, n = m + 1 := by
        cases n with
        | zero => exact hd.elim
        | succ m => exact ⟨m, rfl⟩
      have he := hd e List.mem_cons_self
      have hds : ∀ x ∈ ds, Gn m x := fun x hx => hd x (List.mem_cons_of_mem _ hx)
      simp only [nodes, nodesL] at hz
      have hzl := nodesL_len ds
      repeat walk_at "e"
      refine id_T (atI_nat (j := 0) rfl) ?_
      cases e with
      | dict _ => cases m <;> exact he.elim
      | none =>
        repeat walk_at "e"
        exact fin_sh rfl (by simpa [isT, arOk] using hq)
      | bool _ =>
        repeat walk_at "e"
        exact fin_sh rfl (by simpa [isT, arOk] using hq)
      | int _ =>
        repeat walk_at "e"
        exact fin_sh rfl (by simpa [isT, arOk] using hq)
      | list _ =>
        repeat walk_at "e"
        exact fin_sh rfl (by simpa [isT, arOk] using hq)
      | tuple _ =>
        repeat walk_at "e"
        exact fin_sh rfl (by simpa [isT, arOk] using hq)
      | str s =>
        repeat walk_at "e"
        refine id_T (atI_nat (j := 0) rfl) ?_
        repeat walk_at "e"
        refine rd_notInT (room_in hr) (he.shaped (by omega)) (by decide +kernel) ?_
        rw [in_0sf]
        cases ha : ar s with
        | none =>
          have e : isT (.tuple (.str s :: ds)) = false := by rw [isT_tup, ha]; simp
          rw [e] at hq
          repeat walk_at "e"
          exact fin_sh rfl hq
        | some a =>
          have e : isT (.tuple (.str s :: ds)) = (decide (a = ds.length) && ds.all isT) := by
            rw [isT_tup, ha]
            simp
          rw [e] at hq
          repeat walk_at "e"
          refine we_indexF ?_ base_list
          repeat walk_at "d"
          refine ⟨["0", "s", "f"], rfl, ?_⟩
          repeat walk_at "e"
          refine id_T (atI_nat (j := 0) rfl) ?_
          repeat walk_at "e"
          refine ⟨s, a, rfl, (ar_place ha).1, (ar_place ha).2, ?_⟩
          repeat walk_at "e"
          by_cases hal : a = ds.length
          · rw [decide_eq_true hal, Bool.true_and] at hq
            rw [decide_eq_true (show (((PyData.str s :: ds).length : Nat) : Int) = (a : Int) + 1 by rw [List.length_cons]; omega)]
            repeat walk_at "e"
            with_reducible refine we_lcF (own := [("_law_part", 1)]) (g := gName 1) g.nd ?lc1 ?lc2 ?_ g.calm ?lc4
            case lc4 => exact fun _ => rfl
            case lc1 => exact g.blk (by decide +kernel)
            case lc2 => exact fun s H C cl fp => g.bpg (by decide +kernel)
            refine wi_tup ?_
            repeat walk_at "e"
            rw [cut_tail]
            refine ⟨_, rfl, ?_⟩
            refine lcd_map ((ds.map isT).map .bool) (by simp) (by rw [List.length_map]; omega) trivial (fun i y v hy hv => ?_) ?_
            · rw [List.getElem?_map] at hy
              obtain ⟨x, hx, rfl⟩ := Option.map_eq_some_iff.mp hy
              rw [List.map_map, List.getElem?_map, hx] at hv
              cases hv
              refine gd_name (by simp) ?_
              intro s H C cl fp
              refine g.inB [("_law_part", 1)] ["_law_is_term"] (by decide +kernel) (by decide +kernel) fun nb gb => ?_
              obtain ⟨_, _⟩ := nb
              show WE _ _ ⟨[_, _], _⟩ _
              obtain ⟨h_own_is_term, _⟩ := gb
              have cs := g.bcf h_own_is_term (hrec m (by omega))
              repeat walk_at "e"
              have hxm := List.mem_of_getElem? hx
              have hxz := nodesL_mem hxm
              exact ⟨_, _, rfl, ⟨x, rfl, hds x hxm, by omega, by omega, rfl⟩, rfl, rfl, rfl⟩
            · repeat walk_at "e"
              refine cd_all (bs := ds.map isT) (bls_map _) ?_ g.calm
              rw [show (ds.map isT).all _root_.id = ds.all isT by rw [List.all_map]; rfl]
              repeat walk_at "e"
              exact fin_sh rfl hq
          · rw [decide_eq_false hal] at hq
            rw [decide_eq_false (show ¬ (((PyData.str s :: ds).length : Nat) : Int) = (a : Int) + 1 by rw [List.length_cons]; omega)]
            repeat walk_at "e"
            exact fin_sh rfl hq
theorem fn_own_is_term {f : Addr} {fd : FuncData} (F : Fun K "_law_is_term" "_law_is_term" s_own_is_term f fd) (hm : mg "_law_is_term" = some (.ref f)) (hb : Binds K fd p_own_is_term []) (B : Bare mg) (D_own_is_variable : Df P w K mg base "_law_is_variable" (1) p_own_is_variable (PureR isVF)) : ∀ n : Nat, Df P w K mg base "_law_is_term" (n + 2) p_own_is_term (PureR (treeQ n)) := by
  intro n
  induction n using Nat.strongRecOn with
  | ind n ih => exact ⟨f, fd, step_own_is_term F B D_own_is_variable n ih, hm, F.kp, hb⟩
end

section
variable {P : Program} {w : World} {K : PySem.W.Frag} {mg : Str → Option Value} {base : Heap}
theorem fn_own_is_atom {f : Addr} {fd : FuncData} (F : Fun K "_law_is_atom" "_law_is_atom" s_own_is_atom f fd) (B : Bare mg) (D_own_is_name : Df P w K mg base "_law_is_name" (1) p_own_is_name (PureR isNF)) (D_own_is_term : ∀ n : Nat, Df P w K mg base "_law_is_term" (n + 2) p_own_is_term (PureR (treeQ n))) : FnG P w K mg base CX0 (44) f fd p_own_is_atom (spD K p_own_is_atom.length (PureR isAF)) := by
  refine fn_okN F sc_own_is_atom nm_own_is_atom ns_own_is_atom gn_own_is_atom (fun X g nm ns gn xs om Qd hl hR => ?_)
  have hr := g.room
  obtain ⟨_, _⟩ := nm
  obtain ⟨n_thing, _⟩ := ns
  obtain ⟨g_isinstance, g_tuple, g_len, g_own_is_name, g_all, _⟩ := gn
  have b_isinstance := g.bi g_isinstance B.isi PyProof.Rows.boot_isinstance
  have b_tuple := g.bt g_tuple B.tup PyProof.Rows.boot_tuple
  have b_len := g.bi g_len B.len PySem.boot_len
  have c_own_is_name := g.cf g_own_is_name D_own_is_name
  have b_all := g.bi g_all B.all PyProof.Rows.boot_all
  have cb_t := D_own_is_term 41
  obtain ⟨ds, r, rfl, rfl, ⟨d, n, rfl, hd, hn, hz, rfl⟩, hq⟩ := hR
  show WS _ _ ⟨[.sh d, .no], []⟩ _
  cases d with
  | dict _ => cases n <;> exact hd.elim
  | none =>
    repeat walk_at "e"
    exact fin_sh rfl hq
  | bool b =>
    repeat walk_at "e"
    exact fin_sh rfl hq
  | int i =>
    repeat walk_at "e"
    exact fin_sh rfl hq
  | list ds =>
    repeat walk_at "e"
    exact fin_sh rfl hq
  | str s =>
    repeat walk_at "e"
    exact fin_sh rfl hq
  | tuple ds =>
    cases ds with
    | nil =>
      repeat walk_at "e"
      refine rd_notInT (room_in hr) (by decide +kernel) (by decide +kernel) ?_
      rw [show Dl.inD (.int (([] : List PyData).length : Nat)) [.int 2, .int 3] = false by decide +kernel]
      repeat walk_at "e"
      exact fin_sh rfl hq
    | cons x ds =>
      obtain ⟨m, rfl⟩ : ∃ m, n = m + 1 := by
        cases n with
        | zero => exact hd.elim
        | succ m => exact ⟨m, rfl⟩
      have hx := hd x List.mem_cons_self
      have hds : ∀ y ∈ ds, Gn m y := fun y hy => hd y (List.mem_cons_of_mem _ hy)
      simp only [nodes, nodesL] at hz
      have hq : Qd (.sh (.bool (decide (1 ≤ ds.length) && (decide (ds.length ≤ 2) && (isN x && ds.all isT))))) [] := hq
      have hcl : (x :: ds).length = ds.length + 1 := List.length_cons
      repeat walk_at "e"
      refine rd_notInT (room_in hr) (int_shaped _) (by decide +kernel) ?_
      rw [in23]
      by_cases h2 : ds.length = 1 ∨ ds.length = 2
      · rw [decide_eq_true (show 1 ≤ ds.length by omega), decide_eq_true (show ds.length ≤ 2 by omega), Bool.true_and, Bool.true_and] at hq
        rw [show (decide ((x :: ds).length = 2) || decide ((x :: ds).length = 3)) = true by rw [hcl]; simp; omega]
        repeat walk_at "e"
        refine id_T (atI_nat (j := 0) rfl) ?_
        repeat walk_at "e"
        refine ⟨_, _, rfl, ⟨x, m, rfl, hx, rfl⟩, rfl, ?_⟩
        cases hN : isN x with
        | false =>
          rw [hN] at hq
          repeat walk_at "e"
          exact fin_sh rfl hq
        | true =>
          rw [hN, Bool.true_and] at hq
          repeat walk_at "e"
          with_reducible refine we_lcF (own := [("_law_term_here", 1)]) (g := gName 1) g.nd ?lc1 ?lc2 ?_ g.calm ?lc4
          case lc4 => exact fun _ => rfl
          case lc1 => exact g.blk (by decide +kernel)
          case lc2 => exact fun s H C cl fp => g.bpg (by decide +kernel)
          refine wi_tup ?_
          repeat walk_at "e"
          rw [cut_tail]
          refine ⟨_, rfl, ?_⟩
          refine lcd_map ((ds.map isT).map .bool) (by simp) (by rw [List.length_map]; omega) trivial (fun i y v hy hv => ?_) ?_
          · rw [List.getElem?_map] at hy
            obtain ⟨y, hy2, rfl⟩ := Option.map_eq_some_iff.mp hy
            rw [List.map_map, List.getElem?_map, hy2] at hv
            cases hv
            refine gd_name (by simp) ?_
            intro s H C cl fp
            refine g.inB [("_law_term_here", 1)] ["_law_is_term"] (by decide +kernel) (by decide +kernel) fun nb gb => ?_
            obtain ⟨_, _⟩ := nb
            show WE _ _ ⟨[_, _], _⟩ _
            obtain ⟨h_own_is_term, _⟩ := gb
            have cs := g.bcf h_own_is_term (D_own_is_term 41)
            repeat walk_at "e"
            have hxm := List.mem_of_getElem? hy2
            have hxz := nodesL_mem hxm
            exact ⟨_, _, rfl, ⟨y, rfl, (hds y hxm).mono (by omega), by omega, by omega, rfl⟩, rfl, rfl, rfl⟩
          · repeat walk_at "e"
            refine cd_all (bs := ds.map isT) (bls_map _) ?_ g.calm
            rw [show (ds.map isT).all _root_.id = ds.all isT by rw [List.all_map]; rfl]
            repeat walk_at "e"
            exact fin_sh rfl hq
      · have e : (decide (1 ≤ ds.length) && (decide (ds.length ≤ 2) && (isN x && ds.all isT))) = false := by
          by_cases h3 : 1 ≤ ds.length
          · rw [decide_eq_false (show ¬ ds.length ≤ 2 by omega)]
            simp
          · rw [decide_eq_false h3]
            simp
        rw [e] at hq
        rw [show (decide ((x :: ds).length = 2) || decide ((x :: ds).length = 3)) = false by rw [hcl]; simp; omega]
        repeat walk_at "e"
        exact fin_sh rfl hq
end

/-! ### the law's own look at rules -/
section
variable {P : Program} {w : World} {K : PySem.W.Frag} {mg : Str → Option Value} {base : Heap}
theorem fn_own_is_rule {f : Addr} {fd : FuncData} (F : Fun K "_law_is_rule" "_law_is_rule" s_own_is_rule f fd) (B : Bare mg) (D_own_is_atom : Df P w K mg base "_law_is_atom" (44) p_own_is_atom (PureR isAF)) : FnG P w K mg base CX0 (46) f fd p_own_is_rule (spD K p_own_is_rule.length (PureR isRF)) := by
  refine fn_okN F sc_own_is_rule nm_own_is_rule ns_own_is_rule gn_own_is_rule (fun X g nm ns gn xs om Qd hl hR => ?_)
  have hr := g.room
  obtain ⟨_, _, _, _⟩ := nm
  obtain ⟨n_thing, n_met, n_term_here, _⟩ := ns
  obtain ⟨g_isinstance, g_tuple, g_len, g_own_is_atom, g_int, g_list, g_all, g_range, _⟩ := gn
  have b_isinstance := g.bi g_isinstance B.isi PyProof.Rows.boot_isinstance
  have b_tuple := g.bt g_tuple B.tup PyProof.Rows.boot_tuple
  have b_len := g.bi g_len B.len PySem.boot_len
  have c_own_is_atom := g.cf g_own_is_atom D_own_is_atom
  have b_int := g.bt g_int B.int PyProof.Rows.boot_int
  have b_list := g.bt g_list B.list PyProof.Rows.boot_list
  have b_all := g.bi g_all B.all PyProof.Rows.boot_all
  obtain ⟨ds, r, rfl, rfl, ⟨d, n, rfl, hd, hn, hz, rfl⟩, hq⟩ := hR
  show WS _ _ ⟨[.sh d, .no, .no, .no, .no], []⟩ _
  cases d with
  | dict _ => cases n <;> exact hd.elim
  | none =>
    repeat walk_at "e"
    exact fin_sh rfl hq
  | bool b =>
    repeat walk_at "e"
    exact fin_sh rfl hq
  | int i =>
    repeat walk_at "e"
    exact fin_sh rfl hq
  | list ds =>
    repeat walk_at "e"
    exact fin_sh rfl hq
  | str s =>
    repeat walk_at "e"
    exact fin_sh rfl hq
  | tuple ds =>
    match ds, hd, hz, hq with
    | [], hd, hz, hq =>
      repeat walk_at "e"
      exact fin_sh rfl hq
    | [a], hd, hz, hq =>
      repeat walk_at "e"
      exact fin_sh rfl hq
    | a :: b :: c :: r, hd, hz, hq =>
      repeat walk_at "e"
      exact fin_sh rfl hq
    | [h, b], hd, hz, hq =>
      have hq : Qd (.sh (.bool (isH h && bodB (metA h).length b))) [] := hq
      obtain ⟨m, rfl⟩ : ∃ m, n = m + 1 := by
        cases n with
        | zero => exact hd.elim
        | succ m => exact ⟨m, rfl⟩
      have hh := hd h (by simp)
      have hb := hd b (by simp)
      simp only [nodes, nodesL] at hz
      repeat walk_at "e"
      refine ⟨_, _, rfl, ⟨h, m, rfl, hh, by omega, by omega, rfl⟩, rfl, ?_⟩
      unfold isH at hq
      cases hA : isA h with
      | false =>
        rw [hA] at hq
        repeat walk_at "e"
        exact fin_sh rfl hq
      | true =>
        rw [hA, Bool.true_and] at hq
        have hml := metA_len hA
        have hmg := metA_gn hh hA
        have hmT := metA_isT hA
        obtain ⟨x, ts, rfl, hN, hT, hl1, hl2⟩ := isA_tail hA
        have hT := List.all_eq_true.mp hT
        have emet : metA (.tuple (x :: ts)) = (ts.map metT).flatten := rfl
        repeat walk_at "d"
        refine w1_for (g := gName 2) (vs := [2]) (pgN n_term_here) ?_ g.calm g.po
        refine wi_tup ?_
        repeat walk_at "d"
        rw [cut_tail]
        refine ⟨_, rfl, ?_⟩
        refine ⟨fun i z => ∃ (x_term_here x_atom x_one : Sl), z = ⟨[.sh (.tuple [.tuple (x :: ts), b]), .sh (.list (((ts.take i).map metT).flatten)), x_term_here, x_atom, x_one], []⟩, ?_, ?_, ?_, ?_⟩
        · exact ⟨_, _, _, rfl⟩
        · exact fun _ _ _ _ => trivial
        · rintro i y z hy ⟨x_term_here, x_atom, x_one, rfl⟩
          rw [List.getElem?_map] at hy
          obtain ⟨t, ht, rfl⟩ := Option.map_eq_some_iff.mp hy
          have hts : ts.take (i + 1) = ts.take i ++ [t] := by rw [List.take_succ, ht]; rfl
          have hlen : ((ts.take i).map metT).flatten.length ≤ 4 := by
            have h1 : ((ts.take i).map metT).flatten ++ ((ts.drop i).map metT).flatten = metA (.tuple (x :: ts)) := by
              rw [← List.flatten_append, ← List.map_append, List.take_append_drop]
              exact emet.symm
            have h2 := congrArg List.length h1
            rw [List.length_append] at h2
            omega
          have hfin : ((ts.take i).map metT).flatten ++ metT t = ((ts.take (i + 1)).map metT).flatten := by
            rw [hts, List.map_append, List.flatten_append]
            simp
          have hml2 := met_len (hT t (List.mem_of_getElem? ht))
          refine gd_name (by simp) ?_
          rcases isT_shape (hT t (List.mem_of_getElem? ht)) with ⟨j, rfl, _⟩ | ⟨s, es, rfl, _, hel⟩
          · repeat walk_at "d"
            refine rd_catF (by rw [List.length_singleton]; omega) ?_
            repeat walk_at "d"
            refine loop_nx ⟨?_, ?_, ?_, ?eq1⟩
            case eq1 =>
              rw [← hfin]
              rfl
          · repeat walk_at "d"
            rw [cut_tail]
            refine rd_catF (by omega) ?_
            repeat walk_at "d"
            refine loop_nx ⟨?_, ?_, ?_, ?eq2⟩
            case eq2 =>
              rw [← hfin]
              rfl
        · rintro z ⟨x_term_here, x_atom, x_one, rfl⟩
          rw [List.length_map, List.take_length, ← emet]
          repeat walk_at "d"
          with_reducible refine we_lcF (own := [("_law_one", 4)]) (g := gName 4) g.nd ?lc1 ?lc2 ?_ g.calm ?lc4
          case lc4 => exact fun _ => rfl
          case lc1 => exact g.blk (by decide +kernel)
          case lc2 => exact fun s H C cl fp => g.bpg (by decide +kernel)
          refine wi_list ?_
          repeat walk_at "d"
          refine ⟨_, _, .sh _, ?_⟩
          refine lcd_map (((metA (.tuple (x :: ts))).map isI).map .bool) (by simp) (by rw [List.length_map]; omega) trivial (fun i y v hy hv => ?_) ?_
          · rw [List.getElem?_map] at hy
            obtain ⟨e, he, rfl⟩ := Option.map_eq_some_iff.mp hy
            rw [List.map_map, List.getElem?_map, he] at hv
            cases hv
            refine gd_name (by simp) ?_
            intro s H C cl fp
            refine g.inB [("_law_one", 4)] ["isinstance", "int"] (by decide +kernel) (by decide +kernel) fun nb gb => ?_
            obtain ⟨_, _⟩ := nb
            show WE _ _ ⟨[_, _, _, _, _], _⟩ _
            obtain ⟨h_isinstance, h_int, _⟩ := gb
            have bb_isinstance := g.bbi h_isinstance B.isi PyProof.Rows.boot_isinstance
            have bb_int := g.bbt h_int B.int PyProof.Rows.boot_int
            rcases isT_shape (hmT e (List.mem_of_getElem? he)) with ⟨j, rfl, _⟩ | ⟨s, es, rfl, _, _⟩
            · repeat walk_at "d"
              exact ⟨rfl, rfl⟩
            · repeat walk_at "d"
              exact ⟨rfl, rfl⟩
          repeat walk_at "d"
          refine cd_all (bs := (metA (.tuple (x :: ts))).map isI) (bls_map _) ?_ g.calm
          rw [show ((metA (.tuple (x :: ts))).map isI).all _root_.id = (metA (.tuple (x :: ts))).all isI by rw [List.all_map]; rfl]
          cases hI : (metA (.tuple (x :: ts))).all isI with
          | false =>
            have e : rngB 0 (metA (.tuple (x :: ts))) = false := by
              rw [← Bool.not_eq_true]
              intro h
              rw [rngB_int _ _ h] at hI
              cases hI
            rw [e] at hq
            repeat walk_at "d"
            exact fin_sh rfl hq
          | true =>
            repeat walk_at "d"
            refine ⟨_, rfl, by omega, ?_⟩
            refine rd_neD (room_fit hr) (gn_shapedL hmg (by omega)) (rngD_shaped _) ?_
            rw [rng_eqv hI]
            cases hR : rngB 0 (metA (.tuple (x :: ts))) with
            | false =>
              rw [hR] at hq
              repeat walk_at "d"
              exact fin_sh rfl hq
            | true =>
              rw [hR, Bool.true_and] at hq
              have hm := rng_list hR
              have hin : ∀ j : Int, 0 ≤ j → Dl.inD (.int j) (metA (.tuple (x :: ts))) = ltI (metA (.tuple (x :: ts))).length (.int j) := fun j h => by
                rw [show Dl.inD (.int j) (metA (.tuple (x :: ts))) = Dl.inD (.int j) (rngD (metA (.tuple (x :: ts))).length) from congrArg _ hm]
                exact in_rng h
              obtain ⟨M, hM⟩ : ∃ M, M = metA (.tuple (x :: ts)) := ⟨_, rfl⟩
              rw [← hM] at hq hin hml hmg ⊢
              repeat walk_at "d"
              cases b with
              | dict _ => cases m <;> exact hb.elim
              | none =>
                repeat walk_at "d"
                exact fin_sh rfl hq
              | bool b =>
                repeat walk_at "d"
                exact fin_sh rfl hq
              | int i =>
                repeat walk_at "d"
                exact fin_sh rfl hq
              | list ds =>
                repeat walk_at "d"
                exact fin_sh rfl hq
              | str s =>
                repeat walk_at "d"
                exact fin_sh rfl hq
              | tuple as =>
                have hq : Qd (.sh (.bool (decide (as.length ≤ 3) && (as.all isA && as.all fun a => (tailD a).all (ltI M.length))))) [] := hq
                simp only [nodes] at hz
                repeat walk_at "d"
                by_cases h3 : as.length ≤ 3
                · rw [decide_eq_true h3, Bool.true_and] at hq
                  rw [decide_eq_false (show ¬ ((as.length : Nat) : Int) > 3 by omega)]
                  have hga : ∀ a ∈ as, isAF [a] (.bool (isA a)) := fun a ha => by
                    cases m with
                    | zero => exact hb.elim
                    | succ k => exact ⟨a, k, rfl, hb a ha, by omega, by have := nodesL_mem ha; omega, rfl⟩
                  repeat walk_at "d"
                  with_reducible refine we_lcF (own := [("_law_atom", 3)]) (g := gName 3) g.nd ?lc1 ?lc2 ?_ g.calm ?lc4
                  case lc4 => exact fun _ => rfl
                  case lc1 => exact g.blk (by decide +kernel)
                  case lc2 => exact fun s H C cl fp => g.bpg (by decide +kernel)
                  refine wi_tup ?_
                  repeat walk_at "d"
                  refine ⟨_, rfl, ?_⟩
                  refine lcd_map ((as.map isA).map .bool) (by simp) (by rw [List.length_map]; omega) trivial (fun i y v hy hv => ?_) ?_
                  · rw [List.getElem?_map] at hy
                    obtain ⟨y, hy2, rfl⟩ := Option.map_eq_some_iff.mp hy
                    rw [List.map_map, List.getElem?_map, hy2] at hv
                    cases hv
                    refine gd_name (by simp) ?_
                    intro s H C cl fp
                    refine g.inB [("_law_atom", 3)] ["_law_is_atom"] (by decide +kernel) (by decide +kernel) fun nb gb => ?_
                    obtain ⟨_, _⟩ := nb
                    show WE _ _ ⟨[_, _, _, _, _], _⟩ _
                    obtain ⟨h_own_is_atom, _⟩ := gb
                    have cb_own_is_atom := g.bcf h_own_is_atom D_own_is_atom
                    repeat walk_at "d"
                    exact ⟨_, _, rfl, hga y (List.mem_of_getElem? hy2), rfl, rfl, rfl⟩
                  repeat walk_at "d"
                  refine cd_all (bs := as.map isA) (bls_map _) ?_ g.calm
                  rw [show (as.map isA).all _root_.id = as.all isA by rw [List.all_map]; rfl]
                  cases hAll : as.all isA with
                  | false =>
                    rw [hAll] at hq
                    repeat walk_at "d"
                    exact fin_sh rfl hq
                  | true =>
                    rw [hAll, Bool.true_and] at hq
                    have hAs := List.all_eq_true.mp hAll
                    repeat walk_at "d"
                    with_reducible refine we_lcF (own := [("_law_atom", 3)]) (g := gName 3) g.nd ?lc1 ?lc2 ?_ g.calm ?lc4
                    case lc4 => exact fun _ => rfl
                    case lc1 => exact g.blk (by decide +kernel)
                    case lc2 => exact fun s H C cl fp => g.bpg (by decide +kernel)
                    refine wi_tup ?_
                    repeat walk_at "d"
                    refine ⟨_, rfl, ?_⟩
                    refine lcd_map ((as.map fun a => (tailD a).all (ltI M.length)).map .bool) (by simp) (by rw [List.length_map]; omega) trivial (fun i y v hy hv => ?_) ?_
                    · rw [List.getElem?_map] at hy
                      obtain ⟨a, ha, rfl⟩ := Option.map_eq_some_iff.mp hy
                      rw [List.map_map, List.getElem?_map, ha] at hv
                      cases hv
                      obtain ⟨x2, es, rfl, _, hes, _, hel⟩ := isA_tail (hAs a (List.mem_of_getElem? ha))
                      refine gd_name (by simp) ?_
                      intro s H C cl fp
                      refine g.inBs [("_law_atom", 3), ("_law_met", 1)] ["all"] (by decide +kernel) (by decide +kernel) fun nb gb g2 => ?_
                      obtain ⟨_, _, _⟩ := nb
                      show WE _ _ ⟨[_, _, _, _, _], _⟩ _
                      obtain ⟨h_all, _⟩ := gb
                      have bb_all := g.bbi h_all B.all PyProof.Rows.boot_all
                      repeat walk_at "d"
                      with_reducible refine we_lcF (own := [("_law_term_here", 2)]) (g := gName 2) g2.nd ?lc1 ?lc2 ?_ g2.calm ?lc4
                      case lc4 => exact fun _ => rfl
                      case lc1 => exact g2.blk (by decide +kernel)
                      case lc2 => exact fun s H C cl fp => g2.bpg (by decide +kernel)
                      refine wi_tup ?_
                      repeat walk_at "d"
                      rw [cut_tail]
                      refine ⟨_, rfl, ?_⟩
                      refine lcd_map ((es.map (ltI M.length)).map .bool) (by simp) (by rw [List.length_map]; omega) trivial (fun i y v hy hv => ?_) ?_
                      · rw [List.getElem?_map] at hy
                        obtain ⟨t, ht, rfl⟩ := Option.map_eq_some_iff.mp hy
                        rw [List.map_map, List.getElem?_map, ht] at hv
                        cases hv
                        refine gd_name (by simp) ?_
                        intro s H C cl fp
                        refine g2.inB [("_law_term_here", 2), ("_law_met", 1)] ["isinstance", "int"] (by decide +kernel) (by decide +kernel) fun nb gb => ?_
                        obtain ⟨_, _, _⟩ := nb
                        show WE _ _ ⟨[_, _, _, _, _], _⟩ _
                        obtain ⟨h_isinstance, h_int, _⟩ := gb
                        have bb_isinstance := g2.bbi h_isinstance B.isi PyProof.Rows.boot_isinstance
                        have bb_int := g2.bbt h_int B.int PyProof.Rows.boot_int
                        rcases isT_shape (List.all_eq_true.mp hes t (List.mem_of_getElem? ht)) with ⟨j, rfl, hj0, _⟩ | ⟨s, ds, rfl, _, _⟩
                        · repeat walk_at "d"
                          refine rd_inL (room_in hr) (int_shaped _) (gn_shapedL hmg (by omega)) ?_
                          rw [hin j hj0]
                          exact ⟨rfl, rfl⟩
                        · repeat walk_at "d"
                          exact ⟨rfl, rfl⟩
                      repeat walk_at "d"
                      refine cd_all (bs := es.map (ltI M.length)) (bls_map _) ?_ g.calm
                      rw [show (es.map (ltI M.length)).all _root_.id = es.all (ltI M.length) by rw [List.all_map]; rfl]
                      exact ⟨rfl, rfl⟩
                    repeat walk_at "d"
                    refine cd_all (bs := as.map fun a => (tailD a).all (ltI M.length)) (bls_map _) ?_ g.calm
                    rw [List.all_map]
                    repeat walk_at "d"
                    exact fin_sh rfl hq
                · rw [decide_eq_false h3] at hq
                  rw [decide_eq_true (show ((as.length : Nat) : Int) > 3 by omega)]
                  repeat walk_at "d"
                  exact fin_sh rfl hq
end

/-! ### sorted of a dict whose keys are texts -/
theorem dq_strs {K : PySem.W.Frag} {H : Hp} : ∀ ns : List Str, DqAll K H (ns.map V.str) (ns.map PyData.str)
  | [] => .nil
  | n :: ns => .cons (.str n) (dq_strs ns)
theorem cd_sortedS {X : Cx} {z : Z} {Q : Sl → Z → Prop} (hc : X.calm = true) {es : List (Key × PyData)} {ks : List Str} (hk : es.map (·.1) = ks.map Sum.inr) (h64 : ks.length < 64) (h : ∀ ys : List Str, ys.Perm ks → sortedS ys = true → Q (.sh (.list (ys.map .str))) z) : CD X (.builtin "sorted") [.sh (dicD es)] z Q := fun c w σ vs k b rr hkk => by
  obtain ⟨v, rfl, r⟩ := p1 rr
  obtain ⟨a, kvs, rfl, hH, hp⟩ := Dq_dic r
  exact cB_of (call_sortedD hc) ⟨a, kvs, ks, rfl, .inl (b.same _ _ hH), by rw [hp.fst, hk], h64, fun ys p hperm hsort hp0 => new_lstF b (dq_strs ys) hkk (h ys hperm hsort) p hp0⟩
theorem mergeG_val {Pv : PyData → Prop} {k : Key} : ∀ (more kvs : List (Key × PyData)), (∀ q ∈ more, Pv q.2) → (∀ v, valG kvs k = some v → Pv v) → (k ∈ more.map (·.1) ∨ ∃ v, valG kvs k = some v) → ∃ v, valG (mergeG kvs more) k = some v ∧ Pv v
  | [], kvs, _, h2, h3 => by
    rcases h3 with h | ⟨v, h⟩
    · cases h
    · exact ⟨v, h, h2 v h⟩
  | q :: more, kvs, h1, h2, h3 => by
    show ∃ v, valG (mergeG (putG kvs q.1 q.2) more) k = some v ∧ Pv v
    refine mergeG_val more _ (fun x hx => h1 x (List.mem_cons_of_mem _ hx)) (fun v hv => ?_) ?_
    · rw [valG_putG] at hv
      split at hv
      · cases hv
        exact h1 q List.mem_cons_self
      · exact h2 v hv
    · rw [valG_putG]
      by_cases e : q.1 = k
      · exact .inr ⟨q.2, if_pos e⟩
      · rw [if_neg e]
        rcases h3 with h | h
        · rw [List.map_cons, List.mem_cons] at h
          rcases h with h | h
          · exact absurd h.symm e
          · exact .inl h
        · exact .inr h
theorem put_keys {kvs : List (Key × PyData)} {ks : List Str} {w : Str} {v : PyData} (h : kvs.map (·.1) = ks.map Sum.inr) : ∃ ks' : List Str, (putG kvs (.inr w) v).map (·.1) = ks'.map Sum.inr ∧ 1 ≤ ks'.length ∧ ks'.length ≤ ks.length + 1 ∧ ∀ x ∈ ks', x ∈ ks ∨ x = w := by
  unfold putG
  split
  · rename_i ha
    refine ⟨ks, ?_, ?_, by omega, fun x hx => .inl hx⟩
    · rw [← h, List.map_map]
      refine List.map_congr_left fun q _ => ?_
      show (if q.1 = Sum.inr w then (q.1, v) else q).1 = q.1
      split <;> rfl
    · obtain ⟨q, hq, _⟩ := List.any_eq_true.mp ha
      have h1 := List.length_pos_of_mem hq
      have h2 := congrArg List.length h
      rw [List.length_map, List.length_map] at h2
      omega
  · refine ⟨ks ++ [w], by rw [List.map_append, List.map_append, h]; rfl, by simp, by simp, fun x hx => ?_⟩
    rcases List.mem_append.mp hx with h | h
    · exact .inl h
    · exact .inr (List.mem_singleton.mp h)
theorem merge_keys : ∀ (more kvs : List (Key × PyData)) (ks ws : List Str), kvs.map (·.1) = ks.map Sum.inr → more.map (·.1) = ws.map Sum.inr → ∃ ks' : List Str, (mergeG kvs more).map (·.1) = ks'.map Sum.inr ∧ (1 ≤ ks.length ∨ 1 ≤ ws.length → 1 ≤ ks'.length) ∧ ks'.length ≤ ks.length + ws.length ∧ ∀ x ∈ ks', x ∈ ks ∨ x ∈ ws
  | [], kvs, ks, [], h, _ => ⟨ks, h, fun q => by simpa using q, by omega, fun x hx => .inl hx⟩
  | [], _, _, _ :: _, _, h2 => by simp at h2
  | _ :: _, _, _, [], _, h2 => by simp at h2
  | q :: more, kvs, ks, w :: ws, h, h2 => by
    rw [List.map_cons, List.map_cons] at h2
    injection h2 with h3 h4
    obtain ⟨k1, e1, h5, h6, h7⟩ := put_keys (w := w) (v := q.2) h
    obtain ⟨k2, e2, h8, h9, h10⟩ := merge_keys more _ k1 ws e1 h4
    refine ⟨k2, ?_, fun _ => h8 (.inl h5), by rw [List.length_cons]; omega, fun x hx => ?_⟩
    · show (mergeG (putG kvs q.1 q.2) more).map (·.1) = _
      rw [h3]
      exact e2
    · rcases h10 x hx with h | h
      · rcases h7 x h with h | h
        · exact .inl h
        · exact .inr (by rw [h]; exact List.mem_cons_self)
      · exact .inr (List.mem_cons_of_mem _ h)
/-- a dict of words and with how many terms each stands, as it's looked at by its sorted keys -/
def Cts (es : List (Key × PyData)) : Prop := ∃ ks : List Str, es.map (·.1) = ks.map Sum.inr ∧ 1 ≤ ks.length ∧ ks.length < 64 ∧ ∀ w ∈ ks, okW w ∧ ∃ n : Nat, valG es (.inr w) = some (.int n) ∧ 1 ≤ n ∧ n ≤ 2
def preCounts : List PyData → Prop := fun ds => ∃ ws : List Str, ds = [.list (ws.map .str)] ∧ 1 ≤ ws.length ∧ ws.length ≤ 26 ∧ ∀ w ∈ ws, okW w
def postCounts : List PyData → PyData → Prop := fun _ d => ∃ es, d = dicD es ∧ Cts es

/-! ### with how many terms each word stands -/
section
variable {P : Program} {w : World} {K : PySem.W.Frag} {mg : Str → Option Value} {base : Heap}
theorem fn_counts {f : Addr} {fd : FuncData} (F : Fun K "_law_counts" "_law_counts" s_counts f fd) (B : Bare mg) (D_take : Df P w K mg base "_law_take" (1) p_take (BoxE preTake 1 postTake)) : FnG P w K mg base CX0 (2) f fd p_counts (spD K p_counts.length (BoxE preCounts 26 postCounts)) := by
  refine fn_okN F sc_counts nm_counts ns_counts gn_counts (fun X g nm ns gn xs om Qd hl hR => ?_)
  have hr := g.room
  obtain ⟨_, _, _⟩ := nm
  obtain ⟨n_box_here, n_words_here, _⟩ := ns
  obtain ⟨g_dict, _⟩ := gn
  have b_dict := g.bt g_dict B.dict PyProof.Rows.boot_dict
  obtain ⟨b, ds, rfl, rfl, hG, hc, ⟨ws, rfl, hw1, hwl, hwo⟩, hq⟩ := hR
  show WS _ _ ⟨[.ob 0, .sh (.list (ws.map .str)), .no], [b.o]⟩ _
  repeat walk_at "d"
  with_reducible refine we_lcF (own := [("_law_word", 2)]) (g := gName 2) g.nd ?lc1 ?lc2 ?_ g.calm ?lc4
  case lc4 => exact fun _ => rfl
  case lc1 => exact g.blk (by decide +kernel)
  case lc2 => exact fun s H C cl fp => g.bpg (by decide +kernel)
  refine wi_list ?_
  repeat walk_at "d"
  refine ⟨_, _, .sh _, ?_⟩
  refine lcd_st (fun i acc om' => ∃ (b' : Bx) (es : List (Key × PyData)), acc = es.map Dl.pairD ∧ es.map (·.1) = (ws.take i).map .inr ∧ (∀ q ∈ es, ∃ n : Nat, q.2 = .int n ∧ 1 ≤ n ∧ n ≤ 2) ∧ om' = [b'.o] ∧ b'.G ∧ b'.c ≤ b.c + (i : Int)) (by rw [List.length_map, List.length_map]; omega) ⟨b, [], rfl, (by simp), (by simp), rfl, hG, by omega⟩ (fun _ _ _ _ => trivial) (fun i y acc om' hy hI hl => ?_) (fun acc om' hI hl => ?_)
  · obtain ⟨b1, es, rfl, hk, hes, rfl, hG_b1, hc_b1⟩ := hI
    rw [List.map_map, List.getElem?_map] at hy
    obtain ⟨w, hw, he⟩ := Option.map_eq_some_iff.mp hy
    have he : Sl.sh (.str w) = y := he
    subst he
    have hi := (List.getElem?_eq_some_iff.mp hw).1
    refine gd_name (by simp) ?_
    intro s H C cl fp
    refine g.inB [("_law_word", 2), ("_law_box_here", 0)] ["_law_take"] (by decide +kernel) (by decide +kernel) fun nb gb => ?_
    obtain ⟨_, _, _⟩ := nb
    show WE _ _ ⟨[_, _, _], _⟩ _
    obtain ⟨h_take, _⟩ := gb
    have cb_take := g.bcf h_take D_take
    repeat walk_at "d"
    refine ⟨_, _, _, _, rfl, rfl, (by first | rfl | exact get_end _ _ | exact get_mid _ _ _ | exact get_mids _ _ _ | exact get_mids2 _ _ _ _), (by assumption), (by omega), ⟨_, rfl, by omega, by omega⟩, rfl, ?_⟩
    rintro _ b2 ⟨_, r2, e1, rfl, h0_r2, h1_r2⟩ hG_b2 hc_b2
    cases e1
    try rw [set_end]
    try rw [set_mid]
    try rw [set_mids]
    try rw [set_mids2]
    repeat walk_at "d"
    obtain ⟨n, hn⟩ : ∃ k : Nat, 1 + r2 / 2 = (k : Int) := ⟨(1 + r2 / 2).toNat, by omega⟩
    rw [hn]
    repeat walk_at "d"
    refine ⟨_, rfl, b2, es ++ [(.inr w, .int n)], by rw [List.map_append]; rfl, by rw [List.map_append, hk, List.take_succ, hw, List.map_append]; rfl, fun q hq => ?_, rfl, hG_b2, by omega⟩
    rcases List.mem_append.mp hq with h | h
    · exact hes q h
    · rw [List.mem_singleton.mp h]
      exact ⟨n, rfl, by omega, by omega⟩
  · obtain ⟨b1, es, rfl, hk, hes, rfl, hG_b1, hc_b1⟩ := hI
    rw [List.length_map, List.length_map] at hc_b1
    rw [List.length_map, List.length_map, List.take_length] at hk
    repeat walk_at "d"
    refine cd_dictL g.calm rfl ?_
    repeat walk_at "d"
    refine fin_sh rfl (hq _ b1 ⟨mergeG [] es, rfl, ?_⟩ hG_b1 (by omega))
    obtain ⟨ks, e1, e2, e3, e4⟩ := merge_keys es [] [] ws rfl hk
    refine ⟨ks, e1, e2 (.inr hw1), by simp at e3; omega, fun w hw => ?_⟩
    have hw := (e4 w hw).resolve_left (by simp)
    obtain ⟨v, h1, n, rfl, h2⟩ := mergeG_val (Pv := fun v => ∃ n : Nat, v = .int n ∧ 1 ≤ n ∧ n ≤ 2) (k := .inr w) es [] hes (fun v h => by cases h) (.inl (by rw [hk]; exact List.mem_map.mpr ⟨w, hw, rfl⟩))
    exact ⟨hwo w hw, n, h1, h2⟩
end

/-! ### plain data with short texts, small numbers, few parts -/
/-- plain data with short texts and small numbers -/
def Sx (L : Nat) : Nat → PyData → Prop
  | _, .none => True
  | _, .bool _ => True
  | _, .int i => i.natAbs ≤ 100 + L
  | _, .str s => asc s = true ∧ s.length ≤ L
  | n + 1, .list ds => ds.length ≤ 40 + L ∧ ∀ d ∈ ds, Sx L n d
  | n + 1, .tuple ds => ds.length ≤ 40 + L ∧ ∀ d ∈ ds, Sx L n d
  | _, _ => False
theorem Sx.mono : ∀ {L M n m : Nat} {d : PyData}, Sx L n d → L ≤ M → n ≤ m → Sx M m d
  | _, _, _, _, .none, _, _, _ => by simp [Sx]
  | _, _, _, _, .bool _, _, _, _ => by simp [Sx]
  | L, M, _, _, .int i, h, hl, _ => by
    have h : i.natAbs ≤ 100 + L := by simpa only [Sx] using h
    simp only [Sx]
    omega
  | L, M, _, _, .str s, h, hl, _ => by
    have h : asc s = true ∧ s.length ≤ L := by simpa only [Sx] using h
    simp only [Sx]
    exact ⟨h.1, by omega⟩
  | _, _, 0, _, .list _, h, _, _ => h.elim
  | _, _, 0, _, .tuple _, h, _, _ => h.elim
  | _, _, 0, _, .dict _, h, _, _ => h.elim
  | _, _, _ + 1, 0, _, _, _, hm => absurd hm (by omega)
  | L, M, n + 1, m + 1, .list ds, h, hl, hm => ⟨by have h : ds.length ≤ 40 + L := h.1; omega, fun d hd => Sx.mono (h.2 d hd) hl (by omega)⟩
  | L, M, n + 1, m + 1, .tuple ds, h, hl, hm => ⟨by have h : ds.length ≤ 40 + L := h.1; omega, fun d hd => Sx.mono (h.2 d hd) hl (by omega)⟩
  | _, _, n + 1, m + 1, .dict _, h, _, _ => h.elim
theorem Sx.gn : ∀ {L n : Nat} {d : PyData}, Sx L n d → L ≤ 40 → Gn n d
  | _, _, .none, _, _ => by simp [Gn]
  | _, _, .bool _, _, _ => by simp [Gn]
  | L, _, .int i, h, hl => by
    have h : i.natAbs ≤ 100 + L := by simpa only [Sx] using h
    simp only [Gn]
    omega
  | L, _, .str s, h, hl => by
    have h : asc s = true ∧ s.length ≤ L := by simpa only [Sx] using h
    simp only [Gn]
    exact ⟨h.1, by omega⟩
  | _, 0, .list _, h, _ => h.elim
  | _, 0, .tuple _, h, _ => h.elim
  | _, 0, .dict _, h, _ => h.elim
  | _, n + 1, .list ds, h, hl => fun d hd => Sx.gn (h.2 d hd) hl
  | _, n + 1, .tuple ds, h, hl => fun d hd => Sx.gn (h.2 d hd) hl
  | _, n + 1, .dict _, h, _ => h.elim

/-! ### heads and rules by draws -/
def PtS (d : PyData) : Prop := Sx 7 2 d ∧ nodes d ≤ 4
theorem sx7_int {i : Int} (n : Nat) (h : i.natAbs ≤ 100) : Sx 7 n (.int i) := by
  simp only [Sx]
  omega
theorem sx7_str {s : Str} (n : Nat) (h : asc s = true) (hl : s.length ≤ 7) : Sx 7 n (.str s) := by
  simp only [Sx]
  exact ⟨h, hl⟩
theorem sx7_tup {n : Nat} {ds : List PyData} (hl : ds.length ≤ 47) (h : ∀ d ∈ ds, Sx 7 n d) : Sx 7 (n + 1) (.tuple ds) := ⟨by omega, h⟩
theorem okW_sx7 {s : Str} (h : okW s) (n : Nat) : Sx 7 n (.str s) := sx7_str n (List.all_eq_true.mpr fun c hc => by
  have := h.1 c hc
  unfold lowC at this
  have := of_decide_eq_true this
  exact decide_eq_true (by omega)) (by have := h.2.2; omega)
theorem pt_z : PtS (.tuple [.str "0"]) := ⟨sx7_tup (by simp) fun d hd => by rw [List.mem_singleton.mp hd]; exact sx7_str _ (by decide +kernel) (by decide +kernel), by simp [nodes, nodesL]⟩
theorem pt_v {c : Int} (h0 : 0 ≤ c) (h1 : c ≤ 10) : PtS (.int c) := ⟨sx7_int _ (by omega), by simp [nodes]⟩
theorem pt_s {c : Int} (h0 : 0 ≤ c) (h1 : c ≤ 10) : PtS (.tuple [.str "s", .int c]) := ⟨sx7_tup (by simp) fun d hd => by
  simp only [List.mem_cons, List.not_mem_nil, or_false] at hd
  rcases hd with rfl | rfl
  · exact sx7_str _ (by decide +kernel) (by decide +kernel)
  · exact sx7_int _ (by omega), by simp [nodes, nodesL]⟩
theorem pt_f {c e : Int} (h0 : 0 ≤ c) (h1 : c ≤ 10) (h2 : 0 ≤ e) (h3 : e ≤ 11) : PtS (.tuple [.str "f", .int c, .int e]) := ⟨sx7_tup (by simp) fun d hd => by
  simp only [List.mem_cons, List.not_mem_nil, or_false] at hd
  rcases hd with rfl | rfl | rfl
  · exact sx7_str _ (by decide +kernel) (by decide +kernel)
  · exact sx7_int _ (by omega)
  · exact sx7_int _ (by omega), by simp [nodes, nodesL]⟩
def preHead : List PyData → Prop := fun ds => ∃ (w : Str) (n : Nat), ds = [.str w, .int n] ∧ n ≤ 2
def postHead : List PyData → PyData → Prop := fun ds d => ∃ (w : Str) (n : Nat) (ts : List PyData) (c : Int), ds = [.str w, .int n] ∧ d = .tuple [.tuple (.str w :: ts), .int c] ∧ 0 ≤ c ∧ c ≤ 4 ∧ ts.length = n ∧ ∀ t ∈ ts, PtS t
section
variable {P : Program} {w : World} {K : PySem.W.Frag} {mg : Str → Option Value} {base : Heap}
theorem fn_head {f : Addr} {fd : FuncData} (F : Fun K "_law_head" "_law_head" s_head f fd) (B : Bare mg) (D_take : Df P w K mg base "_law_take" (1) p_take (BoxE preTake 1 postTake)) : FnG P w K mg base CX0 (2) f fd p_head (spD K p_head.length (BoxE preHead 3 postHead)) := by
  refine fn_okN F sc_head nm_head ns_head gn_head (fun X g nm ns gn xs om Qd hl hR => ?_)
  have hr := g.room
  obtain ⟨_, _, _, _, _, _, _, _⟩ := nm
  obtain ⟨n_box_here, n_word, n_many, n_parts, n_count, n_turn, n_way, _⟩ := ns
  obtain ⟨g_range, g_take, g_tuple, _⟩ := gn
  have c_take := g.cf g_take D_take
  have b_tuple := g.bt g_tuple B.tup PyProof.Rows.boot_tuple
  obtain ⟨b, ds, rfl, rfl, hG, hc, ⟨w, n, rfl, hn⟩, hq⟩ := hR
  show WS _ _ ⟨[.ob 0, .sh (.str w), .sh (.int n), .no, .no, .no, .no], [b.o]⟩ _
  refine ws_cons ?_
  refine w1_par (n := 3) (m := 4) g.nd n_parts.n n_count.n (by decide) ?_ (swap2 g.knd (g.loc (by decide +kernel)) (g.loc (by decide +kernel)) (by decide)) rfl (g.loc (by decide +kernel)) (g.loc (by decide +kernel)) g.calm
  repeat walk_at "e"
  refine we_lst ?_
  repeat walk_at "e"
  show W1 X _ ⟨[.ob 0, .sh (.str w), .sh (.int n), .ob 1, .sh (.int 0), .no, .no], [b.o, .lst [.sh (.str w)]]⟩ _
  refine w1_for (g := gName 5) (vs := [5]) (pgN n_turn) ?_ g.calm g.po
  refine wi_rng1 g_range.g (by rw [g.mg]; exact B.range) ?_
  repeat walk_at "e"
  refine ⟨by omega, by omega, fun i z => ∃ (x_turn x_way : Sl) (b' : Bx) (ts : List PyData) (c : Int), z = ⟨[.ob 0, .sh (.str w), .sh (.int n), .ob 1, .sh (.int c), x_turn, x_way], [b'.o, .lst ((.str w :: ts).map .sh)]⟩ ∧ ts.length = i ∧ (∀ t ∈ ts, PtS t) ∧ 0 ≤ c ∧ c ≤ 2 * (i : Int) ∧ b'.G ∧ b'.c ≤ b.c + (i : Int), ?_, ?_, ?_, ?_⟩
  · exact ⟨_, _, b, [], 0, rfl, rfl, (by simp), by omega, by omega, hG, by omega⟩
  · exact fun _ _ _ _ => trivial
  · rintro i y z hy ⟨x_turn, x_way, b2, ts, c, rfl, htl, htp, hc0, hc1, hG_b2, hc_b2⟩
    obtain ⟨hi, rfl⟩ := rngL_get hy
    refine gd_name (by simp) ?_
    have hlt : (((PyData.str w :: ts).map Sl.sh).length) < 100000 := by
      rw [List.length_map, List.length_cons]
      omega
    repeat walk_at "e"
    refine ⟨_, _, _, _, rfl, rfl, (by first | rfl | exact get_end _ _ | exact get_mid _ _ _ | exact get_mids _ _ _ | exact get_mids2 _ _ _ _), (by assumption), (by omega), ⟨_, rfl, by omega, by omega⟩, rfl, ?_⟩
    rintro _ b3 ⟨_, way, e1, rfl, h0_way, h1_way⟩ hG_b3 hc_b3
    cases e1
    try rw [set_end]
    try rw [set_mid]
    try rw [set_mids]
    try rw [set_mids2]
    refine seq_nx ?_
    refine ws_join (fun z => ∃ t : PyData, z = ⟨[.ob 0, .sh (.str w), .sh (.int n), .ob 1, .sh (.int c), .sh (.int (0 + (i : Int))), .sh (.int way)], [b3.o, .lst ((.str w :: (ts ++ [t])).map .sh)]⟩ ∧ PtS t) ?_ ?_
    · have hap : ∀ t : PyData, (PyData.str w :: ts).map Sl.sh ++ [.sh t] = (PyData.str w :: (ts ++ [t])).map Sl.sh := fun t => by simp
      repeat walk_at "e"
      refine ⟨fun h => ?_, fun h => ?_⟩
      · repeat walk_at "e"
        exact join_nx ⟨_, congrArg (fun l => Z.mk _ [b3.o, OO.lst l]) (hap _), pt_z⟩
      repeat walk_at "e"
      refine ⟨fun h => ?_, fun h => ?_⟩
      · repeat walk_at "e"
        exact join_nx ⟨_, congrArg (fun l => Z.mk _ [b3.o, OO.lst l]) (hap _), pt_v hc0 (by omega)⟩
      repeat walk_at "e"
      refine ⟨fun h => ?_, fun h => ?_⟩
      · repeat walk_at "e"
        exact join_nx ⟨_, congrArg (fun l => Z.mk _ [b3.o, OO.lst l]) (hap _), pt_s hc0 (by omega)⟩
      repeat walk_at "e"
      exact join_nx ⟨_, congrArg (fun l => Z.mk _ [b3.o, OO.lst l]) (hap _), pt_f hc0 (by omega) (by omega) (by omega)⟩
    · rintro z ⟨t, rfl, ht⟩
      obtain ⟨k, hk, hkm⟩ := atI_intsM (ns := [0, 1, 1, 2]) h0_way h1_way
      repeat walk_at "d"
      refine id_L hk ?_
      repeat walk_at "d"
      refine loop_nx ⟨_, _, b3, ts ++ [t], c + k, rfl, by simp [htl], fun u hu => ?_, by simp at hkm; omega, by simp at hkm; omega, hG_b3, by omega⟩
      rcases List.mem_append.mp hu with h | h
      · exact htp u h
      · rw [List.mem_singleton.mp h]
        exact ht
  · rintro z ⟨x_turn, x_way, b2, ts, c, rfl, htl, htp, hc0, hc1, hG_b2, hc_b2⟩
    rw [rngL_len] at htl hc1 hc_b2
    repeat walk_at "e"
    refine cd_tupO rfl (allSh_map _) ?_
    repeat walk_at "e"
    exact fin_sh rfl (hq _ b2 ⟨w, n, ts, c, rfl, rfl, hc0, by omega, by omega, htp⟩ hG_b2 (by omega))
end

/-! ### rules by draws -/
def BdS (d : PyData) : Prop := Sx 7 2 d ∧ nodes d ≤ 4
theorem bd_ok {w : Str} {ns : List Int} (hw : okW w) (hl : ns.length ≤ 2) (h : ∀ n ∈ ns, 0 ≤ n ∧ n ≤ 10) : BdS (.tuple (.str w :: ns.map .int)) := by
  have e : nodesL (ns.map .int) = ns.length := by
    clear hl h
    induction ns with
    | nil => simp [nodesL]
    | cons a l ih =>
      rw [List.map_cons, List.length_cons]
      simp only [nodesL, nodes]
      omega
  refine ⟨sx7_tup (by rw [List.length_cons, List.length_map]; omega) fun d hd => ?_, by simp only [nodes, nodesL]; omega⟩
  rcases List.mem_cons.mp hd with rfl | hd
  · exact okW_sx7 hw _
  · obtain ⟨n, hn, rfl⟩ := List.mem_map.mp hd
    have := h n hn
    exact sx7_int _ (by omega)
theorem nodesL_leM {m : Nat} {l : List PyData} (h : ∀ d ∈ l, nodes d ≤ m) : nodesL l ≤ m * l.length := by
  induction l with
  | nil => simp [nodesL]
  | cons d l ih =>
    have h1 := ih fun e he => h e (List.mem_cons_of_mem _ he)
    have h2 := h d List.mem_cons_self
    simp only [nodesL, List.length_cons, Nat.mul_succ]
    omega
theorem rul_ok {w : Str} {ts as : List PyData} (hw : okW w) (hl : ts.length ≤ 2) (ht : ∀ t ∈ ts, PtS t) (hal : as.length ≤ 3) (ha : ∀ a ∈ as, BdS a) : Sx 7 4 (.tuple [.tuple (.str w :: ts), .tuple as]) ∧ nodes (.tuple [.tuple (.str w :: ts), .tuple as]) ≤ 40 := by
  have h1 := nodesL_leM fun t h => (ht t h).2
  have h2 := nodesL_leM fun t h => (ha t h).2
  refine ⟨sx7_tup (by simp) fun d hd => ?_, by simp only [nodes, nodesL]; omega⟩
  simp only [List.mem_cons, List.not_mem_nil, or_false] at hd
  rcases hd with rfl | rfl
  · refine sx7_tup (by rw [List.length_cons]; omega) fun d hd => ?_
    rcases List.mem_cons.mp hd with rfl | hd
    · exact okW_sx7 hw _
    · exact (ht d hd).1
  · exact sx7_tup (by omega) fun d hd => (ha d hd).1
def preRule9 : List PyData → Prop := fun ds => ∃ es, ds = [dicD es] ∧ Cts es
def postRule9 : List PyData → PyData → Prop := fun _ d => Sx 7 4 d ∧ nodes d ≤ 40
section
variable {P : Program} {w : World} {K : PySem.W.Frag} {mg : Str → Option Value} {base : Heap}
theorem fn_rule {f : Addr} {fd : FuncData} (F : Fun K "_law_rule" "_law_rule" s_rule f fd) (B : Bare mg) (D_pick : Df P w K mg base "_law_pick" (2) p_pick (BoxE prePick 1 postPick)) (D_head : Df P w K mg base "_law_head" (2) p_head (BoxE preHead 3 postHead)) (D_take : Df P w K mg base "_law_take" (1) p_take (BoxE preTake 1 postTake)) : FnG P w K mg base CX0 (3) f fd p_rule (spD K p_rule.length (BoxE preRule9 20 postRule9)) := by
  refine fn_okN F sc_rule nm_rule ns_rule gn_rule (fun X g nm ns gn xs om Qd hl hR => ?_)
  have hr := g.room
  obtain ⟨_, _, _, _, _, _, _, _, _, _⟩ := nm
  obtain ⟨n_box_here, n_counts_here, n_words_here, n_word, n_head_here, n_count, n_body, n_turn, n_other, _⟩ := ns
  obtain ⟨g_sorted, g_pick, g_head, g_range, g_take, g_tuple, _⟩ := gn
  have b_sorted := g.bi g_sorted B.sorted PyProof.Rows.boot_sorted
  have c_pick := g.cf g_pick D_pick
  have c_head := g.cf g_head D_head
  have c_take := g.cf g_take D_take
  have b_tuple := g.bt g_tuple B.tup PyProof.Rows.boot_tuple
  obtain ⟨b, ds, rfl, rfl, hG, hc, ⟨es, rfl, ks, hk, hk1, hk2, hkw⟩, hq⟩ := hR
  have hu := room_one hr
  show WS _ _ ⟨[.ob 0, .sh (dicD es), .no, .no, .no, .no, .no, .no, .no, .no], [b.o]⟩ _
  repeat walk_at "e"
  refine cd_sortedS g.calm hk hk2 fun ws hperm _ => ?_
  have hwl : (ws.map PyData.str).length = ws.length := List.length_map _
  have hwk := hperm.length_eq
  have hwm : ∀ w ∈ ws, okW w ∧ ∃ n : Nat, valG es (.inr w) = some (.int n) ∧ 1 ≤ n ∧ n ≤ 2 := fun w hw => hkw w (hperm.mem_iff.mp hw)
  repeat walk_at "e"
  refine ⟨_, _, _, _, rfl, rfl, (by first | rfl | exact get_end _ _ | exact get_mid _ _ _ | exact get_mids _ _ _ | exact get_mids2 _ _ _ _), (by assumption), (by omega), ⟨_, rfl, by omega, by omega⟩, rfl, ?_⟩
  rintro d_b1 b1 ⟨ts, e1, hm⟩ hG_b1 hc_b1
  try rw [set_end]
  try rw [set_mid]
  try rw [set_mids]
  try rw [set_mids2]
  cases e1
  obtain ⟨w, hwm1, rfl⟩ := List.mem_map.mp hm
  obtain ⟨hwo, n, hwn, hn1, hn2⟩ := hwm w hwm1
  repeat walk_at "e"
  refine w1_asgT (g := gTup X.K 2 (gNames [4, 5])) (vs := [4, 5]) (pg_tup g.calm (pgs_cons (pgN n_head_here) (pgs_cons (pgN n_count) pgs_nil))) ?_ rfl rfl rfl
  repeat walk_at "e"
  refine id_DF hu (k := .inr w) rfl hwn ?_
  repeat walk_at "e"
  refine ⟨_, _, _, _, rfl, rfl, (by first | rfl | exact get_end _ _ | exact get_mid _ _ _ | exact get_mids _ _ _ | exact get_mids2 _ _ _ _), (by assumption), (by omega), ⟨w, n, rfl, hn2⟩, rfl, ?_⟩
  rintro d_b2 b2 ⟨w', n', ts, c, e1, rfl, hc0, hc4, htl, hts⟩ hG_b2 hc_b2
  try rw [set_end]
  try rw [set_mid]
  try rw [set_mids]
  try rw [set_mids2]
  obtain ⟨rfl, rfl⟩ : w = w' ∧ n = n' := by
    injection e1 with e1 e2
    injection e1 with e1
    injection e2 with e2 _
    injection e2 with e2
    exact ⟨e1, by omega⟩
  refine gd_tup rfl (by simp) rfl rfl ?_
  refine seq_nx ?_
  show WS _ _ ⟨[.ob 0, .sh (dicD es), .sh (.list (ws.map .str)), .sh (.str w), .sh (.tuple (.str w :: ts)), .sh (.int c), .no, .no, .no, .no], [b2.o]⟩ _
  repeat walk_at "e"
  refine we_lst ?_
  repeat walk_at "e"
  refine w1_for (g := gName 7) (vs := [7]) (pgN n_turn) ?_ g.calm g.po
  refine wi_rng1 g_range.g (by rw [g.mg]; exact B.range) ?_
  repeat walk_at "e"
  refine ⟨fun h => ?_, fun h => ?_⟩
  · (repeat walk_at "d")
    refine ⟨_, _, _, _, rfl, rfl, (by first | rfl | exact get_end _ _ | exact get_mid _ _ _ | exact get_mids _ _ _ | exact get_mids2 _ _ _ _), (by assumption), (by omega), ⟨_, rfl, by omega, by omega⟩, rfl, ?_⟩
    rintro _ b3 ⟨_, m, e1, rfl, h0_m, h1_m⟩ hG_b3 hc_b3
    cases e1
    try rw [set_end]
    try rw [set_mid]
    try rw [set_mids]
    try rw [set_mids2]
    have hm3 : 0 ≤ m ∧ m ≤ 3 ∧ (0 < m → 0 < c) := ⟨by omega, by omega, fun _ => of_decide_eq_true h⟩
    repeat walk_at "e"
    refine ⟨by omega, by omega, fun i z => ∃ (x_turn x_other x_place : Sl) (b' : Bx) (as : List PyData), z = ⟨[.ob 0, .sh (dicD es), .sh (.list (ws.map .str)), .sh (.str w), .sh (.tuple (.str w :: ts)), .sh (.int c), .ob 1, x_turn, x_other, x_place], [b'.o, .lst (as.map .sh)]⟩ ∧ as.length = i ∧ (∀ a ∈ as, BdS a) ∧ b'.G ∧ b'.c ≤ b3.c + 3 * (i : Int), ?_, ?_, ?_, ?_⟩
    · exact ⟨_, _, _, b3, [], rfl, rfl, (by simp), hG_b3, by omega⟩
    · exact fun _ _ _ _ => trivial
    · rintro i y z hy ⟨x_turn, x_other, x_place, b4, as, rfl, hal, has, hG_b4, hc_b4⟩
      obtain ⟨hi, rfl⟩ := rngL_get hy
      have hcp : 0 < c := by omega
      have hlt : (as.map Sl.sh).length < 100000 := by
        rw [List.length_map]
        omega
      refine gd_name (by simp) ?_
      repeat walk_at "e"
      refine ⟨_, _, _, _, rfl, rfl, (by first | rfl | exact get_end _ _ | exact get_mid _ _ _ | exact get_mids _ _ _ | exact get_mids2 _ _ _ _), (by assumption), (by omega), ⟨_, rfl, by omega, by omega⟩, rfl, ?_⟩
      rintro d_b5 b5 ⟨ts', e1, hm'⟩ hG_b5 hc_b5
      try rw [set_end]
      try rw [set_mid]
      try rw [set_mids]
      try rw [set_mids2]
      cases e1
      obtain ⟨v, hvm, rfl⟩ := List.mem_map.mp hm'
      obtain ⟨hvo, n2, hvn, hn21, hn22⟩ := hwm v hvm
      repeat walk_at "e"
      with_reducible refine we_lcF (own := [("_law_place", 9)]) (g := gName 9) g.nd ?lc1 ?lc2 ?_ g.calm ?lc4
      case lc4 => exact fun _ => rfl
      case lc1 => exact g.blk (by decide +kernel)
      case lc2 => exact fun s H C cl fp => g.bpg (by decide +kernel)
      refine wi_rng1 g_range.g (by rw [g.mg]; exact B.range) ?_
      repeat walk_at "d"
      refine id_DF hu (k := .inr v) rfl hvn ?_
      repeat walk_at "d"
      refine ⟨by omega, by omega, ?_⟩
      refine lcd_st (fun i acc om' => ∃ (b' : Bx) (ns : List Int), acc = ns.map .int ∧ (∀ n ∈ ns, 0 ≤ n ∧ n ≤ 10) ∧ om' = [b'.o, .lst (as.map .sh)] ∧ b'.G ∧ b'.c ≤ b5.c + (i : Int)) (by rw [rngL_len]; omega) ⟨b5, [], rfl, (by simp), rfl, hG_b5, by omega⟩ (fun _ _ _ _ => trivial) (fun i y acc om' hy hI hl => ?_) (fun acc om' hI hl => ?_)
      · obtain ⟨b6, ns, rfl, hns, rfl, hG_b6, hc_b6⟩ := hI
        obtain ⟨hi2, rfl⟩ := rngL_get hy
        refine gd_name (by simp) ?_
        intro s H C cl fp
        refine g.inB [("_law_place", 9), ("_law_box_here", 0), ("_law_count", 5)] ["_law_take"] (by decide +kernel) (by decide +kernel) fun nb gb => ?_
        obtain ⟨_, _, _, _⟩ := nb
        show WE _ _ ⟨[_, _, _, _, _, _, _, _, _, _], _⟩ _
        obtain ⟨h_take, _⟩ := gb
        have cb_take := g.bcf h_take D_take
        repeat walk_at "d"
        refine ⟨_, _, _, _, rfl, rfl, (by first | rfl | exact get_end _ _ | exact get_mid _ _ _ | exact get_mids _ _ _ | exact get_mids2 _ _ _ _), (by assumption), (by omega), ⟨c, rfl, by omega, by omega⟩, rfl, ?_⟩
        rintro d_b7 b7 ⟨_, x, e1, rfl, h0_x, h1_x⟩ hG_b7 hc_b7
        try rw [set_end]
        try rw [set_mid]
        try rw [set_mids]
        try rw [set_mids2]
        cases e1
        exact ⟨_, rfl, b7, ns ++ [x], by rw [List.map_append]; rfl, fun u hu => by
          rcases List.mem_append.mp hu with h | h
          · exact hns u h
          · rw [List.mem_singleton.mp h]
            omega, rfl, hG_b7, by omega⟩
      · obtain ⟨b6, ns, rfl, hns, rfl, hG_b6, hc_b6⟩ := hI
        rw [List.length_map, rngL_len] at hl
        rw [rngL_len] at hc_b6
        have hll : [PyData.str v].length + (ns.map PyData.int).length ≤ 100000 := by
          rw [List.length_map, List.length_cons, List.length_nil]
          omega
        repeat walk_at "d"
        refine loop_nx ⟨?_, ?_, ?_, b6, as ++ [.tuple (.str v :: ns.map .int)], ?eq1, by simp [hal], fun u hu => ?_, hG_b6, by omega⟩
        case eq1 =>
          rw [List.map_append]
          rfl
        rcases List.mem_append.mp hu with h | h
        · exact has u h
        · rw [List.mem_singleton.mp h]
          exact bd_ok hvo (by omega) hns
    · rintro z ⟨x_turn, x_other, x_place, b4, as, rfl, hal, has, hG_b4, hc_b4⟩
      rw [rngL_len] at hal hc_b4
      repeat walk_at "e"
      refine cd_tupO rfl (allSh_map _) ?_
      repeat walk_at "e"
      exact fin_sh rfl (hq _ b4 (rul_ok hwo (by omega) hts (by omega) has) hG_b4 (by omega))
  · (repeat walk_at "d")
    skip
    (obtain ⟨m, hm0⟩ : ∃ m : Int, m = 0 := ⟨0, rfl⟩; have hm3 : 0 ≤ m ∧ m ≤ 0 ∧ (0 < m → 0 < c) := ⟨by omega, by omega, fun q => by omega⟩)
    repeat walk_at "e"
    refine ⟨by omega, by omega, fun i z => ∃ (x_turn x_other x_place : Sl) (b' : Bx) (as : List PyData), z = ⟨[.ob 0, .sh (dicD es), .sh (.list (ws.map .str)), .sh (.str w), .sh (.tuple (.str w :: ts)), .sh (.int c), .ob 1, x_turn, x_other, x_place], [b'.o, .lst (as.map .sh)]⟩ ∧ as.length = i ∧ (∀ a ∈ as, BdS a) ∧ b'.G ∧ b'.c ≤ b2.c + 3 * (i : Int), ?_, ?_, ?_, ?_⟩
    · exact ⟨_, _, _, b2, [], rfl, rfl, (by simp), hG_b2, by omega⟩
    · exact fun _ _ _ _ => trivial
    · rintro i y z hy ⟨x_turn, x_other, x_place, b4, as, rfl, hal, has, hG_b4, hc_b4⟩
      obtain ⟨hi, rfl⟩ := rngL_get hy
      have hcp : 0 < c := by omega
      have hlt : (as.map Sl.sh).length < 100000 := by
        rw [List.length_map]
        omega
      refine gd_name (by simp) ?_
      repeat walk_at "e"
      refine ⟨_, _, _, _, rfl, rfl, (by first | rfl | exact get_end _ _ | exact get_mid _ _ _ | exact get_mids _ _ _ | exact get_mids2 _ _ _ _), (by assumption), (by omega), ⟨_, rfl, by omega, by omega⟩, rfl, ?_⟩
      rintro d_b5 b5 ⟨ts', e1, hm'⟩ hG_b5 hc_b5
      try rw [set_end]
      try rw [set_mid]
      try rw [set_mids]
      try rw [set_mids2]
      cases e1
      obtain ⟨v, hvm, rfl⟩ := List.mem_map.mp hm'
      obtain ⟨hvo, n2, hvn, hn21, hn22⟩ := hwm v hvm
      repeat walk_at "e"
      with_reducible refine we_lcF (own := [("_law_place", 9)]) (g := gName 9) g.nd ?lc1 ?lc2 ?_ g.calm ?lc4
      case lc4 => exact fun _ => rfl
      case lc1 => exact g.blk (by decide +kernel)
      case lc2 => exact fun s H C cl fp => g.bpg (by decide +kernel)
      refine wi_rng1 g_range.g (by rw [g.mg]; exact B.range) ?_
      repeat walk_at "d"
      refine id_DF hu (k := .inr v) rfl hvn ?_
      repeat walk_at "d"
      refine ⟨by omega, by omega, ?_⟩
      refine lcd_st (fun i acc om' => ∃ (b' : Bx) (ns : List Int), acc = ns.map .int ∧ (∀ n ∈ ns, 0 ≤ n ∧ n ≤ 10) ∧ om' = [b'.o, .lst (as.map .sh)] ∧ b'.G ∧ b'.c ≤ b5.c + (i : Int)) (by rw [rngL_len]; omega) ⟨b5, [], rfl, (by simp), rfl, hG_b5, by omega⟩ (fun _ _ _ _ => trivial) (fun i y acc om' hy hI hl => ?_) (fun acc om' hI hl => ?_)
      · obtain ⟨b6, ns, rfl, hns, rfl, hG_b6, hc_b6⟩ := hI
        obtain ⟨hi2, rfl⟩ := rngL_get hy
        refine gd_name (by simp) ?_
        intro s H C cl fp
        refine g.inB [("_law_place", 9), ("_law_box_here", 0), ("_law_count", 5)] ["_law_take"] (by decide +kernel) (by decide +kernel) fun nb gb => ?_
        obtain ⟨_, _, _, _⟩ := nb
        show WE _ _ ⟨[_, _, _, _, _, _, _, _, _, _], _⟩ _
        obtain ⟨h_take, _⟩ := gb
        have cb_take := g.bcf h_take D_take
        repeat walk_at "d"
        refine ⟨_, _, _, _, rfl, rfl, (by first | rfl | exact get_end _ _ | exact get_mid _ _ _ | exact get_mids _ _ _ | exact get_mids2 _ _ _ _), (by assumption), (by omega), ⟨c, rfl, by omega, by omega⟩, rfl, ?_⟩
        rintro d_b7 b7 ⟨_, x, e1, rfl, h0_x, h1_x⟩ hG_b7 hc_b7
        try rw [set_end]
        try rw [set_mid]
        try rw [set_mids]
        try rw [set_mids2]
        cases e1
        exact ⟨_, rfl, b7, ns ++ [x], by rw [List.map_append]; rfl, fun u hu => by
          rcases List.mem_append.mp hu with h | h
          · exact hns u h
          · rw [List.mem_singleton.mp h]
            omega, rfl, hG_b7, by omega⟩
      · obtain ⟨b6, ns, rfl, hns, rfl, hG_b6, hc_b6⟩ := hI
        rw [List.length_map, rngL_len] at hl
        rw [rngL_len] at hc_b6
        have hll : [PyData.str v].length + (ns.map PyData.int).length ≤ 100000 := by
          rw [List.length_map, List.length_cons, List.length_nil]
          omega
        repeat walk_at "d"
        refine loop_nx ⟨?_, ?_, ?_, b6, as ++ [.tuple (.str v :: ns.map .int)], ?eq2, by simp [hal], fun u hu => ?_, hG_b6, by omega⟩
        case eq2 =>
          rw [List.map_append]
          rfl
        rcases List.mem_append.mp hu with h | h
        · exact has u h
        · rw [List.mem_singleton.mp h]
          exact bd_ok hvo (by omega) hns
    · rintro z ⟨x_turn, x_other, x_place, b4, as, rfl, hal, has, hG_b4, hc_b4⟩
      rw [rngL_len] at hal hc_b4
      repeat walk_at "e"
      refine cd_tupO rfl (allSh_map _) ?_
      repeat walk_at "e"
      exact fin_sh rfl (hq _ b4 (rul_ok hwo (by omega) hts (by omega) has) hG_b4 (by omega))
end

/-! ### a thing of some kind -/
def OdS (d : PyData) : Prop := Sx 7 2 d ∧ nodes d ≤ 6
def oddN : List PyData := [.none, .bool true, .bool false, .int (-1), .int 100, .int 99, .int 0, .int 1, .int 2, .str "", .str "if", .str "abcdefg", .str "Ab", .str "a b", .str "a1", .str "x", .list [], .tuple []] ++ [.tuple [.str "0"], .list [.str "0"]] ++ [.tuple [.str "s", .int 0], .tuple [.str "s"], .tuple [.str "f", .int 0], .tuple [.str "f", .int 0, .int 1], .tuple [.str "0", .int 0], .tuple [.str "a", .int 0], .tuple [.str "a", .int 0, .int 0, .int 0], .tuple [.int 0, .str "a"]] ++ [.tuple [.str "s", .tuple [.str "s", .int 0]], .tuple [.str "a", .bool true], .tuple [.str "a", .none], .str "abcdef", .tuple [.tuple [.int 0]]]
theorem odd_ok {d : PyData} (h : d ∈ oddN) : OdS d := by
  simp only [oddN, List.cons_append, List.nil_append, List.mem_cons, List.not_mem_nil, or_false] at h
  rcases h with rfl | rfl | rfl | rfl | rfl | rfl | rfl | rfl | rfl | rfl | rfl | rfl | rfl | rfl | rfl | rfl | rfl | rfl | rfl | rfl | rfl | rfl | rfl | rfl | rfl | rfl | rfl | rfl | rfl | rfl | rfl | rfl | rfl
  all_goals (refine ⟨?_, by simp [nodes, nodesL]⟩; simp [Sx]; try decide +kernel)
section
variable {P : Program} {w : World} {K : PySem.W.Frag} {mg : Str → Option Value} {base : Heap}
theorem fn_odd {f : Addr} {fd : FuncData} (F : Fun K "_law_odd" "_law_odd" s_odd f fd) (B : Bare mg) (D_pick : Df P w K mg base "_law_pick" (2) p_pick (BoxE prePick 1 postPick)) : FnG P w K mg base CX0 (3) f fd p_odd (spD K p_odd.length (BoxE (fun ds => ds = []) 1 (fun _ d => d ∈ oddN))) := by
  refine fn_okN F sc_odd nm_odd ns_odd gn_odd (fun X g nm ns gn xs om Qd hl hR => ?_)
  have hr := g.room
  obtain ⟨_, _, _⟩ := nm
  obtain ⟨n_box_here, n_some, _⟩ := ns
  obtain ⟨g_pick, _⟩ := gn
  have c_pick := g.cf g_pick D_pick
  obtain ⟨b, ds, rfl, rfl, hG, hc, rfl, hq⟩ := hR
  show WS _ _ ⟨[.ob 0, .no], [b.o]⟩ _
  repeat walk_at "d"
  refine ⟨_, _, _, _, rfl, rfl, (by first | rfl | exact get_end _ _ | exact get_mid _ _ _ | exact get_mids _ _ _ | exact get_mids2 _ _ _ _), (by assumption), (by omega), ⟨_, rfl, by simp, by simp⟩, rfl, ?_⟩
  rintro d_b1 b1 ⟨ts, e1, hm⟩ hG_b1 hc_b1
  try rw [set_end]
  try rw [set_mid]
  try rw [set_mids]
  try rw [set_mids2]
  cases e1
  repeat walk_at "d"
  exact fin_sh rfl (hq _ b1 hm hG_b1 (by omega))
end

/-! ### one thing otherwise somewhere within -/
theorem nodesL_rev (ds : List PyData) : nodesL ds.reverse = nodesL ds := by
  induction ds with
  | nil => rfl
  | cons a l ih =>
    rw [List.reverse_cons, nodesL_app, ih]
    simp only [nodesL]
    omega
theorem nodesL_set {ds : List PyData} {a : Nat} {y : PyData} (r : PyData) (h : ds[a]? = some y) : nodesL (ds.set a r) + nodes y = nodesL ds + nodes r := by
  induction ds generalizing a with
  | nil => simp at h
  | cons x l ih =>
    cases a with
    | zero =>
      simp at h
      subst h
      simp only [List.set_cons_zero, nodesL]
      omega
    | succ a =>
      have := ih (a := a) (by simpa using h)
      simp only [List.set_cons_succ, nodesL]
      omega
theorem nodesL_cut (ds : List PyData) (a b : Nat) (h : a ≤ b) : nodesL (ds.take a ++ ds.drop b) ≤ nodesL ds := by
  have e1 : nodesL ds = nodesL (ds.take a) + nodesL (ds.drop a) := by rw [← nodesL_app, List.take_append_drop]
  have e2 : nodesL (ds.drop a) = nodesL ((ds.drop a).take (b - a)) + nodesL (ds.drop b) := by
    rw [show ds.drop b = (ds.drop a).drop (b - a) by rw [List.drop_drop]; congr 1; omega, ← nodesL_app, List.take_append_drop]
  rw [nodesL_app]
  omega
def preBent (n : Nat) : List PyData → Prop := fun ds => ∃ (d : PyData) (L : Nat), ds = [d] ∧ Sx L n d ∧ 7 ≤ L ∧ L ≤ 30 ∧ n ≤ 40 ∧ nodes d ≤ 3000
def postBent (n : Nat) : List PyData → PyData → Prop := fun ds r => ∃ d : PyData, ds = [d] ∧ (∀ L, 7 ≤ L → L ≤ 30 → Sx L n d → Sx (L + 1) (n + 2) r) ∧ nodes r ≤ 2 * nodes d + 6
section
variable {P : Program} {w : World} {K : PySem.W.Frag} {mg : Str → Option Value} {base : Heap}
theorem step_bent {f : Addr} {fd : FuncData} (F : Fun K "_law_bent" "_law_bent" s_bent f fd) (B : Bare mg) (D_odd : Df P w K mg base "_law_odd" (3) p_odd (BoxE (fun ds => ds = []) 1 (fun _ d => d ∈ oddN))) (D_take : Df P w K mg base "_law_take" (1) p_take (BoxE preTake 1 postTake)) (n : Nat) (hrec : ∀ m, m < n → Df P w K mg base "_law_bent" (m + 4) p_bent (BoxE (preBent m) (3 * m + 6) (postBent m))) : FnG P w K mg base CX0 (n + 4) f fd p_bent (spD K p_bent.length (BoxE (preBent n) (3 * n + 6) (postBent n))) := by
  refine fn_okN F sc_bent nm_bent ns_bent gn_bent (fun X g nm ns gn xs om Qd hl hR => ?_)
  have hr := g.room
  obtain ⟨_, _, _, _, _, _⟩ := nm
  obtain ⟨n_box_here, n_thing, n_parts, n_way, n_at, _⟩ := ns
  obtain ⟨g_isinstance, g_tuple, g_take, g_int, g_bool, g_odd, g_list, g_len, g_bent, _⟩ := gn
  have b_isinstance := g.bi g_isinstance B.isi PyProof.Rows.boot_isinstance
  have b_tuple := g.bt g_tuple B.tup PyProof.Rows.boot_tuple
  have c_take := g.cf g_take D_take
  have b_int := g.bt g_int B.int PyProof.Rows.boot_int
  have b_bool := g.bt g_bool B.bool PyProof.Rows.boot_bool
  have c_odd := g.cf g_odd D_odd
  have b_list := g.bt g_list B.list PyProof.Rows.boot_list
  have b_len := g.bi g_len B.len PySem.boot_len
  obtain ⟨b, ds, rfl, rfl, hG, hc, ⟨d, L, rfl, hd, hL1, hL2, hn40, hz⟩, hq⟩ := hR
  have fin : ∀ (r : PyData) (b' : Bx), (∀ L, 7 ≤ L → L ≤ 30 → Sx L n d → Sx (L + 1) (n + 2) r) → nodes r ≤ 2 * nodes d + 6 → b'.G → b'.c ≤ b.c + ((3 * n + 6 : Nat) : Int) → Qd (.sh r) [b'.o] := fun r b' h1 h2 h3 h4 => hq _ b' ⟨d, rfl, h1, h2⟩ h3 h4
  have fodd : ∀ (r : PyData) (b' : Bx), r ∈ oddN → b'.G → b'.c ≤ b.c + ((3 * n + 6 : Nat) : Int) → Qd (.sh r) [b'.o] := fun r b' hr h1 h2 => fin r b' (fun M h3 h4 _ => (odd_ok hr).1.mono (by omega) (by omega)) (by have := (odd_ok hr).2; omega) h1 h2
  have hgn := hd.gn (by omega)
  show WS _ _ ⟨[.ob 0, .sh d, .no, .no, .no], [b.o]⟩ _
  cases d with
  | dict _ => cases n <;> exact hd.elim
  | none =>
    repeat walk_at "d"
    refine ⟨_, _, _, _, rfl, rfl, (by first | rfl | exact get_end _ _ | exact get_mid _ _ _ | exact get_mids _ _ _ | exact get_mids2 _ _ _ _), (by assumption), (by omega), rfl, rfl, ?_⟩
    rintro d_b1 b1 hm hG_b1 hc_b1
    try rw [set_end]
    try rw [set_mid]
    try rw [set_mids]
    try rw [set_mids2]
    repeat walk_at "d"
    exact fin_sh rfl (fodd _ b1 hm hG_b1 (by omega))
  | bool bo =>
    repeat walk_at "d"
    refine ⟨_, _, _, _, rfl, rfl, (by first | rfl | exact get_end _ _ | exact get_mid _ _ _ | exact get_mids _ _ _ | exact get_mids2 _ _ _ _), (by assumption), (by omega), rfl, rfl, ?_⟩
    rintro d_b1 b1 hm hG_b1 hc_b1
    try rw [set_end]
    try rw [set_mid]
    try rw [set_mids]
    try rw [set_mids2]
    repeat walk_at "d"
    exact fin_sh rfl (fodd _ b1 hm hG_b1 (by omega))
  | str s =>
    repeat walk_at "d"
    refine ⟨_, _, _, _, rfl, rfl, (by first | rfl | exact get_end _ _ | exact get_mid _ _ _ | exact get_mids _ _ _ | exact get_mids2 _ _ _ _), (by assumption), (by omega), rfl, rfl, ?_⟩
    rintro d_b1 b1 hm hG_b1 hc_b1
    try rw [set_end]
    try rw [set_mid]
    try rw [set_mids]
    try rw [set_mids2]
    repeat walk_at "d"
    exact fin_sh rfl (fodd _ b1 hm hG_b1 (by omega))
  | list ds =>
    repeat walk_at "d"
    refine ⟨_, _, _, _, rfl, rfl, (by first | rfl | exact get_end _ _ | exact get_mid _ _ _ | exact get_mids _ _ _ | exact get_mids2 _ _ _ _), (by assumption), (by omega), rfl, rfl, ?_⟩
    rintro d_b1 b1 hm hG_b1 hc_b1
    try rw [set_end]
    try rw [set_mid]
    try rw [set_mids]
    try rw [set_mids2]
    repeat walk_at "d"
    exact fin_sh rfl (fodd _ b1 hm hG_b1 (by omega))
  | int i =>
    have hd : i.natAbs ≤ 100 + L := by simpa only [Sx] using hd
    repeat walk_at "d"
    refine ⟨_, _, _, _, rfl, rfl, (by first | rfl | exact get_end _ _ | exact get_mid _ _ _ | exact get_mids _ _ _ | exact get_mids2 _ _ _ _), (by assumption), (by omega), ⟨_, rfl, by omega, by omega⟩, rfl, ?_⟩
    rintro _ b1 ⟨_, r1, e1, rfl, h0_r1, h1_r1⟩ hG_b1 hc_b1
    cases e1
    try rw [set_end]
    try rw [set_mid]
    try rw [set_mids]
    try rw [set_mids2]
    repeat walk_at "d"
    refine ⟨fun h => ?_, fun h => ?_⟩
    · repeat walk_at "d"
      refine ⟨_, _, _, _, rfl, rfl, (by first | rfl | exact get_end _ _ | exact get_mid _ _ _ | exact get_mids _ _ _ | exact get_mids2 _ _ _ _), (by assumption), (by omega), ⟨_, rfl, by omega, by omega⟩, rfl, ?_⟩
      rintro _ b2 ⟨_, r2, e1, rfl, h0_r2, h1_r2⟩ hG_b2 hc_b2
      cases e1
      try rw [set_end]
      try rw [set_mid]
      try rw [set_mids]
      try rw [set_mids2]
      obtain ⟨k, hk, hkm⟩ := atI_intsM (ns := [1, -1]) h0_r2 h1_r2
      refine id_L hk ?_
      repeat walk_at "d"
      refine fin_sh rfl (fin _ b2 (fun M h1 h2 h3 => ?_) (by simp [nodes]) hG_b2 (by omega))
      have h3 : i.natAbs ≤ 100 + M := by simpa only [Sx] using h3
      simp only [Sx]
      simp at hkm
      omega
    · repeat walk_at "d"
      refine ⟨_, _, _, _, rfl, rfl, (by first | rfl | exact get_end _ _ | exact get_mid _ _ _ | exact get_mids _ _ _ | exact get_mids2 _ _ _ _), (by assumption), (by omega), rfl, rfl, ?_⟩
      rintro d_b2 b2 hm hG_b2 hc_b2
      try rw [set_end]
      try rw [set_mid]
      try rw [set_mids]
      try rw [set_mids2]
      repeat walk_at "d"
      exact fin_sh rfl (fodd _ b2 hm hG_b2 (by omega))
  | tuple ds =>
    repeat walk_at "d"
    refine rd_eqD (room_fit hr) (hgn.shaped (by omega)) (by decide +kernel) ?_
    rw [eqv_unit]
    cases ds with
    | nil =>
      repeat walk_at "d"
      refine ⟨_, _, _, _, rfl, rfl, (by first | rfl | exact get_end _ _ | exact get_mid _ _ _ | exact get_mids _ _ _ | exact get_mids2 _ _ _ _), (by assumption), (by omega), rfl, rfl, ?_⟩
      rintro d_b1 b1 hm hG_b1 hc_b1
      try rw [set_end]
      try rw [set_mid]
      try rw [set_mids]
      try rw [set_mids2]
      repeat walk_at "d"
      exact fin_sh rfl (fodd _ b1 hm hG_b1 (by omega))
    | cons e es =>
      repeat walk_at "d"
      refine ⟨_, _, _, _, rfl, rfl, (by first | rfl | exact get_end _ _ | exact get_mid _ _ _ | exact get_mids _ _ _ | exact get_mids2 _ _ _ _), (by assumption), (by omega), ⟨_, rfl, by omega, by omega⟩, rfl, ?_⟩
      rintro _ b1 ⟨_, r1, e1, rfl, h0_r1, h1_r1⟩ hG_b1 hc_b1
      cases e1
      try rw [set_end]
      try rw [set_mid]
      try rw [set_mids]
      try rw [set_mids2]
      repeat walk_at "d"
      refine ⟨fun h => ?_, fun h => ?_⟩
      · repeat walk_at "d"
        refine ⟨_, _, _, _, rfl, rfl, (by first | rfl | exact get_end _ _ | exact get_mid _ _ _ | exact get_mids _ _ _ | exact get_mids2 _ _ _ _), (by assumption), (by omega), rfl, rfl, ?_⟩
        rintro d_b2 b2 hm hG_b2 hc_b2
        try rw [set_end]
        try rw [set_mid]
        try rw [set_mids]
        try rw [set_mids2]
        repeat walk_at "d"
        exact fin_sh rfl (fodd _ b2 hm hG_b2 (by omega))
      obtain ⟨m, rfl⟩ : ∃ m, n = m + 1 := by
        cases n with
        | zero => exact hd.elim
        | succ m => exact ⟨m, rfl⟩
      obtain ⟨D, hD⟩ : ∃ D, D = e :: es := ⟨_, rfl⟩
      have hlen : 1 ≤ D.length := by
        rw [hD]
        simp
      rw [← hD] at fin hd hz hgn hq ⊢
      clear hD
      have hdx : ∀ d ∈ D, Sx L m d := hd.2
      simp only [nodes] at hz
      have hnl := nodesL_len D
      have c_bent := g.cf g_bent (hrec m (by omega))
      have hsame : ∀ M, 7 ≤ M → M ≤ 30 → (∀ d ∈ D, Sx M m d) → ∀ e ∈ D, Sx (M + 1) (m + 2) e := fun M _ _ h e he => (h e he).mono (by omega) (by omega)
      have fft : ∀ (es : List PyData) (b' : Bx), (∀ M, 7 ≤ M → M ≤ 30 → (∀ d ∈ D, Sx M m d) → ∀ e ∈ es, Sx (M + 1) (m + 2) e) → nodesL es ≤ 2 * nodesL D + 7 → es.length ≤ D.length + 1 → b'.G → b'.c ≤ b.c + ((3 * (m + 1) + 6 : Nat) : Int) → Qd (.sh (.tuple es)) [b'.o] ∧ Qd (.sh (.list es)) [b'.o] := fun es b' h1 h2 h5 h3 h4 => ⟨fin _ b' (fun M k1 k2 k3 => ⟨by have k4 : D.length ≤ 40 + M := k3.1; omega, h1 M k1 k2 k3.2⟩) (by simp only [nodes]; omega) h3 h4, fin _ b' (fun M k1 k2 k3 => ⟨by have k4 : D.length ≤ 40 + M := k3.1; omega, h1 M k1 k2 k3.2⟩) (by simp only [nodes]; omega) h3 h4⟩
      refine ws_nil ?_
      repeat walk_at "d"
      refine w1_par3 (n := 2) (m := 3) (o := 4) g.nd n_parts.n n_way.n n_at.n (by decide) (by decide) (by decide) ?_ (swap3 g.knd (g.loc (by decide +kernel)) (g.loc (by decide +kernel)) (g.loc (by decide +kernel)) (by decide) (by decide) (by decide)) rfl (g.loc (by decide +kernel)) (g.loc (by decide +kernel)) (g.loc (by decide +kernel)) g.calm
      repeat walk_at "lo"
      refine ⟨_, _, _, _, rfl, rfl, (by first | rfl | exact get_end _ _ | exact get_mid _ _ _ | exact get_mids _ _ _ | exact get_mids2 _ _ _ _), (by assumption), (by omega), ⟨_, rfl, by omega, by omega⟩, rfl, ?_⟩
      rintro _ b2 ⟨_, way, e1, rfl, h0_way, h1_way⟩ hG_b2 hc_b2
      cases e1
      try rw [set_end]
      try rw [set_mid]
      try rw [set_mids]
      try rw [set_mids2]
      repeat walk_at "lo"
      refine ⟨_, _, _, _, rfl, rfl, (by first | rfl | exact get_end _ _ | exact get_mid _ _ _ | exact get_mids _ _ _ | exact get_mids2 _ _ _ _), (by assumption), (by omega), ⟨_, rfl, by omega, by omega⟩, rfl, ?_⟩
      rintro _ b3 ⟨_, a, e1, rfl, h0_a, h1_a⟩ hG_b3 hc_b3
      cases e1
      try rw [set_end]
      try rw [set_mid]
      try rw [set_mids]
      try rw [set_mids2]
      obtain ⟨a, rfl⟩ := Int.eq_ofNat_of_zero_le h0_a
      have hal : a < D.length := by omega
      obtain ⟨y, hy⟩ : ∃ y, D[a]? = some y := ⟨_, List.getElem?_eq_getElem hal⟩
      have hym := List.mem_of_getElem? hy
      have hyn := nodesL_mem hym
      refine seq_nx ?_
      show WS _ _ ⟨[.ob 0, .sh (.tuple D), .ob 1, .sh (.int way), .sh (.int a)], [b3.o, .lst (D.map .sh)]⟩ _
      repeat walk_at "d"
      refine ⟨fun h => ?_, fun h => ?_⟩
      · refine ws_frz 1 rfl (allSh_map _) ?_
        show WS _ _ ⟨[.ob 0, .sh (.tuple D), .sh (.list D), .sh (.int way), .sh (.int a)], [b3.o, .gone]⟩ _
        repeat walk_at "d"
        rw [cut_to (by omega), show ((a : Int) + 1) = ((a + 1 : Nat) : Int) by omega, cut_from]
        refine rd_catF (by rw [List.length_take, List.length_drop]; omega) ?_
        repeat walk_at "d"
        refine fin_sh rfl (fft _ b3 (fun M h1 h2 h3 e he => hsame M h1 h2 h3 e ?_) (by have := nodesL_cut D a (a + 1) (by omega); omega) (by rw [List.length_append, List.length_take, List.length_drop]; omega) hG_b3 (by omega)).1
        rcases List.mem_append.mp he with he | he
        · exact List.mem_of_mem_take he
        · exact List.mem_of_mem_drop he
      repeat walk_at "d"
      refine ⟨fun h => ?_, fun h => ?_⟩
      · refine ws_frz 1 rfl (allSh_map _) ?_
        show WS _ _ ⟨[.ob 0, .sh (.tuple D), .sh (.list D), .sh (.int way), .sh (.int a)], [b3.o, .gone]⟩ _
        repeat walk_at "d"
        refine id_L (atI_nat hy) ?_
        repeat walk_at "d"
        repeat walk_at "d"
        refine fin_sh rfl (fft (D ++ [y]) b3 (fun M h1 h2 h3 e he => hsame M h1 h2 h3 e ?_) (by rw [nodesL_app]; simp only [nodesL]; omega) (by simp) hG_b3 (by omega)).1
        rcases List.mem_append.mp he with he | he
        · exact he
        · rw [List.mem_singleton.mp he]
          exact hym
      repeat walk_at "d"
      refine ⟨fun h => ?_, fun h => ?_⟩
      · refine ws_frz 1 rfl (allSh_map _) ?_
        show WS _ _ ⟨[.ob 0, .sh (.tuple D), .sh (.list D), .sh (.int way), .sh (.int a)], [b3.o, .gone]⟩ _
        repeat walk_at "d"
        refine s3_revL (by omega) ?_
        repeat walk_at "d"
        exact fin_sh rfl (fft _ b3 (fun M h1 h2 h3 e he => hsame M h1 h2 h3 e (List.mem_reverse.mp he)) (by rw [nodesL_rev]; omega) (by rw [List.length_reverse]; omega) hG_b3 (by omega)).1
      repeat walk_at "d"
      refine ⟨fun h => ?_, fun h => ?_⟩
      · repeat walk_at "d"
        exact fin_frz (Nat.le_refl _) rfl rfl (allSh_map _) (fft D b3 hsame (by omega) (by omega) hG_b3 (by omega)).2
      repeat walk_at "dl"
      refine id_O rfl (atI_nat (by rw [List.getElem?_map, hy]; rfl)) ?_
      repeat walk_at "d"
      refine ⟨_, _, _, _, rfl, rfl, (by first | rfl | exact get_end _ _ | exact get_mid _ _ _ | exact get_mids _ _ _ | exact get_mids2 _ _ _ _), (by assumption), (by omega), ⟨y, L, rfl, hdx y hym, hL1, hL2, by omega, by omega⟩, rfl, ?_⟩
      rintro d_b4 b4 ⟨y', e1, hr1, hr2⟩ hG_b4 hc_b4
      try rw [set_end]
      try rw [set_mid]
      try rw [set_mids]
      try rw [set_mids2]
      cases e1
      repeat walk_at "d"
      refine ⟨1, _, _, a, rfl, rfl, rfl, ?_, ?_⟩
      · unfold ixN
        rw [List.length_map, if_pos (by omega), if_pos (by omega)]
        rfl
      have hset := nodesL_set d_b4 hy
      rw [← List.map_set]
      repeat walk_at "d"
      refine cd_tupO rfl (allSh_map _) ?_
      repeat walk_at "d"
      refine fin_sh rfl (fft (D.set a d_b4) b4 (fun M h1 h2 h3 e he => ?_) (by omega) (by rw [List.length_set]; omega) hG_b4 (by omega)).1
      rcases List.mem_or_eq_of_mem_set he with he | rfl
      · exact hsame M h1 h2 h3 e he
      · exact hr1 M h1 h2 (h3 y hym)
theorem fn_bent {f : Addr} {fd : FuncData} (F : Fun K "_law_bent" "_law_bent" s_bent f fd) (hm : mg "_law_bent" = some (.ref f)) (hb : Binds K fd p_bent []) (B : Bare mg) (D_odd : Df P w K mg base "_law_odd" (3) p_odd (BoxE (fun ds => ds = []) 1 (fun _ d => d ∈ oddN))) (D_take : Df P w K mg base "_law_take" (1) p_take (BoxE preTake 1 postTake)) : ∀ n : Nat, Df P w K mg base "_law_bent" (n + 4) p_bent (BoxE (preBent n) (3 * n + 6) (postBent n)) := by
  intro n
  induction n using Nat.strongRecOn with
  | ind n ih => exact ⟨f, fd, step_bent F B D_odd D_take n ih, hm, F.kp, hb⟩
end

/-! ### what is asked of a thing; the law -/
theorem sx_dict {L n : Nat} {es : List (PyData × PyData)} (h : Sx L n (.dict es)) : False := by
  cases n <;> exact h.elim
theorem Tm.sx_d : ∀ t : Tm, (∀ x ∈ t.vs, 0 ≤ x ∧ x ≤ 99) → Sx 7 (t.dp + 1) t.d
  | .v n, h => by
    have := h n (by simp [Tm.vs])
    simp only [Tm.d, Sx]
    omega
  | .z, _ => sx7_tup (by simp) fun d hd => by
    rw [List.mem_singleton.mp hd]
    exact sx7_str _ (by decide +kernel) (by decide +kernel)
  | .s t, h => sx7_tup (by simp) fun d hd => by
    simp only [List.mem_cons, List.not_mem_nil, or_false] at hd
    rcases hd with rfl | rfl
    · exact sx7_str _ (by decide +kernel) (by decide +kernel)
    · exact Tm.sx_d t h
  | .f t u, h => sx7_tup (by simp) fun d hd => by
    have h1 := Tm.sx_d t fun x hx => h x (List.mem_append_left _ hx)
    have h2 := Tm.sx_d u fun x hx => h x (List.mem_append_right _ hx)
    simp only [List.mem_cons, List.not_mem_nil, or_false] at hd
    rcases hd with rfl | rfl | rfl
    · exact sx7_str _ (by decide +kernel) (by decide +kernel)
    · exact h1.mono (by omega) (by show t.dp + 1 ≤ max t.dp u.dp + 1; omega)
    · exact h2.mono (by omega) (by show u.dp + 1 ≤ max t.dp u.dp + 1; omega)
/-- a thing otherwise so many times -/
structure Th (j : Nat) (d : PyData) : Prop where
  x : Sx (7 + j) (6 + 2 * j) d
  z : nodes d + 6 ≤ 80 * 2 ^ j
def askF : List PyData → PyData → Prop := fun ds r => ∃ d, ds = [d] ∧ Gn 40 d ∧ nodes d ≤ 15000 ∧ r = .bool true
theorem Th.ask {j : Nat} {d : PyData} (h : Th j d) (hj : j ≤ 3) : askF [d] (.bool true) := by
  refine ⟨d, rfl, (h.x.gn (by omega)).mono (by omega), ?_, rfl⟩
  have := h.z
  have : 2 ^ j ≤ 2 ^ 3 := Nat.pow_le_pow_right (by omega) hj
  omega
theorem Th.next {j : Nat} {d r : PyData} (h : Th j d) (hx : Sx (7 + j + 1) (6 + 2 * j + 2) r) (hz : nodes r ≤ 2 * nodes d + 6) : Th (j + 1) r := by
  refine ⟨hx.mono (by omega) (by omega), ?_⟩
  have := h.z
  rw [Nat.pow_succ]
  omega
theorem Th.odd {j : Nat} {r : PyData} (h : r ∈ oddN) : Th j r := by
  refine ⟨(odd_ok h).1.mono (by omega) (by omega), ?_⟩
  have := (odd_ok h).2
  have : 1 ≤ 2 ^ j := Nat.one_le_two_pow
  omega
theorem Th.word {w : Str} (h : okW w) : Th 0 (.str w) := ⟨okW_sx7 h _, by simp [nodes]⟩
theorem Th.atom {w : Str} {ts : List Tm} (h : okW w) (hl : ts.length ≤ 2) (ht : ∀ t ∈ ts, TmOk 3 t) : Th 0 (.tuple (.str w :: ts.map Tm.d)) := by
  refine ⟨sx7_tup (by rw [List.length_cons, List.length_map]; omega) fun d hd => ?_, ?_⟩
  · rcases List.mem_cons.mp hd with rfl | hd
    · exact okW_sx7 h _
    · obtain ⟨t, hm, rfl⟩ := List.mem_map.mp hd
      exact (Tm.sx_d t (ht t hm).vs).mono (by omega) (by have := (ht t hm).dp; omega)
  · have e := nodesL_leM (m := 30) (l := ts.map Tm.d) fun d hd => by
      obtain ⟨t, hm, rfl⟩ := List.mem_map.mp hd
      have h1 := Tm.nodes_d t
      have h2 : t.sz < 2 ^ (3 + 1) := (ht t hm).sz
      omega
    rw [List.length_map] at e
    simp only [nodes, nodesL]
    omega
theorem Th.rule {d : PyData} (h : Sx 7 4 d) (hz : nodes d ≤ 40) : Th 0 d := ⟨h.mono (by omega) (by omega), by omega⟩
def lawF : List PyData → PyData → Prop := fun ds r => ∃ ns : List Int, ds = [.list (ns.map .int)] ∧ r = .bool true
section
variable {P : Program} {w : World} {K : PySem.W.Frag} {mg : Str → Option Value} {base : Heap}
theorem fn_asked_right {f : Addr} {fd : FuncData} (F : Fun K "_law_asked_right" "_law_asked_right" s_asked_right f fd) (B : Bare mg) (D_is_name : Df P w K mg base "is_name" (1) p_is_name (PureR isNF)) (D_is_atom : Df P w K mg base "is_atom" (3) p_is_atom (PureR isAF)) (D_is_rule : Df P w K mg base "is_rule" (5) p_is_rule (PureR isRF)) (D_same : ∀ n : Nat, Df P w K mg base "_law_same" (n + 1) p_same (PureR (sameF n))) (D_own_is_name : Df P w K mg base "_law_is_name" (1) p_own_is_name (PureR isNF)) (D_own_is_atom : Df P w K mg base "_law_is_atom" (44) p_own_is_atom (PureR isAF)) (D_own_is_rule : Df P w K mg base "_law_is_rule" (46) p_own_is_rule (PureR isRF)) : FnG P w K mg base CX0 (47) f fd p_asked_right (spD K p_asked_right.length (PureR askF)) := by
  refine fn_okN F sc_asked_right nm_asked_right ns_asked_right gn_asked_right (fun X g nm ns gn xs om Qd hl hR => ?_)
  have hr := g.room
  obtain ⟨_, _, _, _⟩ := nm
  obtain ⟨n_thing, n_stays, n_found, _⟩ := ns
  obtain ⟨g_repr, g_is_name, g_is_atom, g_is_rule, g_same, g_own_is_name, g_own_is_atom, g_own_is_rule, _⟩ := gn
  have b_repr := g.bi g_repr B.repr PyProof.Rows.boot_repr
  have c_is_name := g.cf g_is_name D_is_name
  have c_is_atom := g.cf g_is_atom D_is_atom
  have c_is_rule := g.cf g_is_rule D_is_rule
  have c_own_is_name := g.cf g_own_is_name D_own_is_name
  have c_own_is_atom := g.cf g_own_is_atom D_own_is_atom
  have c_own_is_rule := g.cf g_own_is_rule D_own_is_rule
  obtain ⟨ds, r, rfl, rfl, ⟨d, rfl, hd, hz, rfl⟩, hq⟩ := hR
  have c_same := g.cf g_same (D_same 20)
  have hshw : Shw d := Gn.shw hd (by omega) (by omega)
  show WS _ _ ⟨[.sh d, .no, .no], []⟩ _
  repeat walk_at "d"
  refine cd_repr hr hshw ?_
  repeat walk_at "d"
  refine ⟨_, _, rfl, ⟨d, 40, rfl, hd, rfl⟩, rfl, ?_⟩
  repeat walk_at "d"
  refine ⟨_, _, rfl, ⟨d, 40, rfl, hd, by omega, hz, rfl⟩, rfl, ?_⟩
  repeat walk_at "d"
  refine ⟨_, _, rfl, ⟨d, 40, rfl, hd, by omega, hz, rfl⟩, rfl, ?_⟩
  repeat walk_at "d"
  refine ⟨_, _, rfl, ⟨d, 40, rfl, hd, rfl⟩, rfl, ?_⟩
  repeat walk_at "d"
  refine ⟨_, _, rfl, ⟨d, 40, rfl, hd, by omega, hz, rfl⟩, rfl, ?_⟩
  repeat walk_at "d"
  refine ⟨_, _, rfl, ⟨d, 40, rfl, hd, by omega, hz, rfl⟩, rfl, ?_⟩
  repeat walk_at "d"
  refine ⟨_, _, rfl, ⟨_, rfl, ⟨by simp, fun e he => ?_⟩, rfl⟩, rfl, ?_⟩
  · simp only [List.mem_cons, List.not_mem_nil, or_false] at he
    rcases he with rfl | rfl | rfl <;> simp [Pd]
  repeat walk_at "d"
  refine cd_repr hr hshw ?_
  repeat walk_at "d"
  rw [decide_eq_true rfl]
  repeat walk_at "d"
  exact fin_sh rfl hq
theorem fn_law {f : Addr} {fd : FuncData} (F : Fun K "law" "law" s_law f fd) (B : Bare mg) (D_folded : Df P w K mg base "_law_folded" (1) p_folded (RFold)) (D_box : Df P w K mg base "_law_box" (1) p_box (RBox)) (D_counts : Df P w K mg base "_law_counts" (2) p_counts (BoxE preCounts 26 postCounts)) (D_words : Df P w K mg base "_law_words" (2) p_words (BoxE preWords 9 postWords)) (D_pick : Df P w K mg base "_law_pick" (2) p_pick (BoxE prePick 1 postPick)) (D_rule : Df P w K mg base "_law_rule" (3) p_rule (BoxE preRule9 20 postRule9)) (D_asked_right : Df P w K mg base "_law_asked_right" (47) p_asked_right (PureR askF)) (D_term : ∀ n : Nat, Df P w K mg base "_law_term" (n + 3) p_term (BoxE (preTerm n) (6 * 2 ^ n - 1) (postTerm n))) (D_take : Df P w K mg base "_law_take" (1) p_take (BoxE preTake 1 postTake)) (D_bent : ∀ n : Nat, Df P w K mg base "_law_bent" (n + 4) p_bent (BoxE (preBent n) (3 * n + 6) (postBent n))) (D_odd : Df P w K mg base "_law_odd" (3) p_odd (BoxE (fun ds => ds = []) 1 (fun _ d => d ∈ oddN))) : FnG P w K mg base CX0 (48) f fd p_law (spD K p_law.length (PureR lawF)) := by
  refine fn_okN F sc_law nm_law ns_law gn_law (fun X g nm ns gn xs om Qd hl hR => ?_)
  have hr := g.room
  obtain ⟨_, _, _, _, _, _, _, _, _, _, _, _, _⟩ := nm
  obtain ⟨n_script, n_cells, n_k, n_box_here, n_counts_here, n_turn, n_word, n_atom, n_one, n_again, n_bent_here, n_once, _⟩ := ns
  obtain ⟨g_folded, g_range, g_len, g_box, g_counts, g_words, g_pick, g_sorted, g_tuple, g_rule, g_asked_right, g_take, g_isinstance, g_bent, g_odd, _⟩ := gn
  have c_folded := g.cf g_folded D_folded
  have b_len := g.bi g_len B.len PySem.boot_len
  have c_box := g.cf g_box D_box
  have c_counts := g.cf g_counts D_counts
  have c_words := g.cf g_words D_words
  have c_pick := g.cf g_pick D_pick
  have b_sorted := g.bi g_sorted B.sorted PyProof.Rows.boot_sorted
  have b_tuple := g.bt g_tuple B.tup PyProof.Rows.boot_tuple
  have c_rule := g.cf g_rule D_rule
  have c_asked_right := g.cf g_asked_right D_asked_right
  have c_take := g.cf g_take D_take
  have b_isinstance := g.bi g_isinstance B.isi PyProof.Rows.boot_isinstance
  have c_odd := g.cf g_odd D_odd
  obtain ⟨ds, r, rfl, rfl, ⟨ns, rfl, rfl⟩, hq⟩ := hR
  have hu := room_one hr
  show WS _ _ ⟨[.sh (.list (ns.map .int)), .no, .no, .no, .no, .no, .no, .no, .no, .no, .no, .no, .no], []⟩ _
  refine ws_cons ?_
  walk_at "w1"
  refine we_cG c_folded hr (by omega) ?_ rfl rfl
  repeat walk_at "d"
  refine ⟨_, fun y om' => ∃ cs : List Int, 1 ≤ cs.length ∧ cs.length ≤ 3 ∧ y = .sh (.list (cs.map .int)) ∧ om' = [], rfl, ⟨ns, 3, rfl, rfl, by omega, by omega, fun cs h1 h2 => ⟨cs, h1, h2, rfl, rfl⟩⟩, rfl, ?_⟩
  rintro y om' ⟨cs, hc1, hc3, rfl, rfl⟩
  show Seq X _ _ (.nx ⟨[.sh (.list (ns.map .int)), .sh (.list (cs.map .int)), .no, .no, .no, .no, .no, .no, .no, .no, .no, .no, .no], []⟩)
  refine seq_nx ?_
  refine ws_cons ?_
  refine w1_for (g := gName 2) (vs := [2]) (pgN n_k) ?_ g.calm g.po
  refine wi_rng1 g_range.g (by rw [g.mg]; exact B.range) ?_
  repeat walk_at "d"
  have hcl : (cs.map PyData.int).length = cs.length := List.length_map _
  refine ⟨by omega, by omega, fun i z => ∃ (x_k x_box_here x_counts_here x_turn x_word x_atom x_one x_again x_bent_here x_once x_place : Sl) (om : List OO), z = ⟨[.sh (.list (ns.map .int)), .sh (.list (cs.map .int)), x_k, x_box_here, x_counts_here, x_turn, x_word, x_atom, x_one, x_again, x_bent_here, x_once, x_place], om⟩, ?_, ?_, ?_, ?_⟩
  · exact ⟨.no, .no, .no, .no, .no, .no, .no, .no, .no, .no, .no, [], rfl⟩
  · exact fun _ _ _ _ => trivial
  · rintro i y z hy ⟨x_k, x_box_here, x_counts_here, x_turn, x_word, x_atom, x_one, x_again, x_bent_here, x_once, x_place, om, rfl⟩
    obtain ⟨hi, rfl⟩ := rngL_get hy
    refine gd_name (by simp) ?_
    refine ws_cons ?_
    walk_at "w1"
    refine we_cG c_box hr (by omega) ?_ rfl rfl
    repeat walk_at "d"
    refine ⟨_, fun y om' => ∃ b : Bx, b.G ∧ b.c + 1000000000 ≤ 1099511627776 ∧ y = .ob 0 ∧ om' = [b.o], rfl, ⟨cs, _, rfl, rfl, by omega, by omega, fun b h1 h2 => ⟨b, h1, h2, rfl, rfl⟩⟩, rfl, ?_⟩
    rintro y om' ⟨b, hG, hc, rfl, rfl⟩
    show Seq X _ _ (.nx ⟨[.sh (.list (ns.map .int)), .sh (.list (cs.map .int)), .sh (.int (0 + (i : Int))), .ob om.length, x_counts_here, x_turn, x_word, x_atom, x_one, x_again, x_bent_here, x_once, x_place], om ++ [b.o]⟩)
    refine seq_nx ?_
    repeat walk_at "d"
    refine ⟨_, _, _, _, rfl, rfl, (by first | rfl | exact get_end _ _ | exact get_mid _ _ _ | exact get_mids _ _ _ | exact get_mids2 _ _ _ _), (by assumption), (by omega), ⟨4, rfl, by omega, by omega⟩, rfl, ?_⟩
    rintro d_b1 b1 ⟨n, ws, e1, rfl, hw1, hw2⟩ hG_b1 hc_b1
    try rw [set_end]
    try rw [set_mid]
    try rw [set_mids]
    try rw [set_mids2]
    cases e1
    have hw1 : ws.length = 4 := hw1
    repeat walk_at "d"
    refine ⟨_, _, _, _, rfl, rfl, (by first | rfl | exact get_end _ _ | exact get_mid _ _ _ | exact get_mids _ _ _ | exact get_mids2 _ _ _ _), (by assumption), (by omega), ⟨ws, rfl, by omega, by omega, hw2⟩, rfl, ?_⟩
    rintro d_b2 b2 ⟨es, rfl, ks, hk, hk1, hk2, hkw⟩ hG_b2 hc_b2
    try rw [set_end]
    try rw [set_mid]
    try rw [set_mids]
    try rw [set_mids2]
    show Seq X _ _ (.nx ⟨[.sh (.list (ns.map .int)), .sh (.list (cs.map .int)), .sh (.int (0 + (i : Int))), .ob om.length, .sh (dicD es), x_turn, x_word, x_atom, x_one, x_again, x_bent_here, x_once, x_place], om ++ [b2.o]⟩)
    refine seq_nx ?_
    refine ws_cons ?_
    refine w1_for (g := gName 5) (vs := [5]) (pgN n_turn) ?_ g.calm g.po
    refine wi_rng1 g_range.g (by rw [g.mg]; exact B.range) ?_
    repeat walk_at "d"
    refine ⟨by decide, by decide, fun j z => ∃ (x_turn x_word x_atom x_one x_again x_bent_here x_once x_place : Sl) (b' : Bx), z = ⟨[.sh (.list (ns.map .int)), .sh (.list (cs.map .int)), .sh (.int (0 + (i : Int))), .ob om.length, .sh (dicD es), x_turn, x_word, x_atom, x_one, x_again, x_bent_here, x_once, x_place], om ++ [b'.o]⟩ ∧ b'.G ∧ b'.c ≤ b2.c + 7000 * (j : Int), ?_, ?_, ?_, ?_⟩
    · exact ⟨_, _, _, _, _, _, _, _, b2, rfl, hG_b2, by omega⟩
    · exact fun _ _ _ _ => trivial
    · rintro j y z hy ⟨x_turn, x_word, x_atom, x_one, x_again, x_bent_here, x_once, x_place, b3, rfl, hG_b3, hc_b3⟩
      obtain ⟨hj, rfl⟩ := rngL_get hy
      have hj5 : j < 5 := hj
      refine gd_name (by simp) ?_
      repeat walk_at "d"
      refine cd_sortedS g.calm hk hk2 fun vs hperm _ => ?_
      have hvl : (vs.map PyData.str).length = vs.length := List.length_map _
      have hvk := hperm.length_eq
      repeat walk_at "d"
      refine ⟨_, _, _, _, rfl, rfl, (by first | rfl | exact get_end _ _ | exact get_mid _ _ _ | exact get_mids _ _ _ | exact get_mids2 _ _ _ _), (by assumption), (by omega), ⟨_, rfl, by omega, by omega⟩, rfl, ?_⟩
      rintro d_b4 b4 ⟨ts, e1, hm⟩ hG_b4 hc_b4
      try rw [set_end]
      try rw [set_mid]
      try rw [set_mids]
      try rw [set_mids2]
      cases e1
      obtain ⟨w, hwm, rfl⟩ := List.mem_map.mp hm
      obtain ⟨hwo, n, hwn, hn1, hn2⟩ := hkw w (hperm.mem_iff.mp hwm)
      show Seq X _ _ (.nx ⟨[.sh (.list (ns.map .int)), .sh (.list (cs.map .int)), .sh (.int (0 + (i : Int))), .ob om.length, .sh (dicD es), .sh (.int (0 + (j : Int))), .sh (.str w), x_atom, x_one, x_again, x_bent_here, x_once, x_place], om ++ [b4.o]⟩)
      refine seq_nx ?_
      repeat walk_at "d"
      with_reducible refine we_lcF (own := [("_law_place", 12)]) (g := gName 12) g.nd ?lc1 ?lc2 ?_ g.calm ?lc4
      case lc4 => exact fun _ => rfl
      case lc1 => exact g.blk (by decide +kernel)
      case lc2 => exact fun s H C cl fp => g.bpg (by decide +kernel)
      refine wi_rng1 g_range.g (by rw [g.mg]; exact B.range) ?_
      repeat walk_at "d"
      refine id_DF hu (k := .inr w) rfl hwn ?_
      repeat walk_at "d"
      refine ⟨by omega, by omega, ?_⟩
      refine lcd_st (fun i acc om' => ∃ (b' : Bx) (ts : List Tm), acc = ts.map Tm.d ∧ ts.length = i ∧ (∀ t ∈ ts, TmOk 3 t) ∧ om' = om ++ [b'.o] ∧ b'.G ∧ b'.c ≤ b4.c + 47 * (i : Int)) (by rw [rngL_len]; omega) ⟨b4, [], rfl, rfl, (by simp), rfl, hG_b4, by omega⟩ (fun _ _ _ _ => trivial) (fun i y acc om' hy hI hl => ?_) (fun acc om' hI hl => ?_)
      · obtain ⟨b6, ts, rfl, htl, hts, rfl, hG_b6, hc_b6⟩ := hI
        obtain ⟨hi2, rfl⟩ := rngL_get hy
        refine gd_name (by simp) ?_
        intro s H C cl fp
        refine g.inB [("_law_place", 12), ("_law_box_here", 3)] ["_law_term"] (by decide +kernel) (by decide +kernel) fun nb gb => ?_
        obtain ⟨_, _, _⟩ := nb
        show WE _ _ ⟨[_, _, _, _, _, _, _, _, _, _, _, _, _], _⟩ _
        obtain ⟨h_term, _⟩ := gb
        have cs := g.bcf h_term (D_term 3)
        repeat walk_at "d"
        refine ⟨_, _, _, _, rfl, rfl, (by first | rfl | exact get_end _ _ | exact get_mid _ _ _ | exact get_mids _ _ _ | exact get_mids2 _ _ _ _), (by assumption), (by omega), ⟨3, by omega, rfl⟩, rfl, ?_⟩
        rintro d_b7 b7 ⟨t, rfl, ht⟩ hG_b7 hc_b7
        try rw [set_end]
        try rw [set_mid]
        try rw [set_mids]
        try rw [set_mids2]
        exact ⟨_, rfl, b7, ts ++ [t], by rw [List.map_append]; rfl, by simp [htl], fun u hu => by
          rcases List.mem_append.mp hu with h | h
          · exact hts u h
          · rw [List.mem_singleton.mp h]
            exact ht, rfl, hG_b7, by omega⟩
      obtain ⟨b6, ts, rfl, htl, hts, rfl, hG_b6, hc_b6⟩ := hI
      rw [rngL_len] at htl hc_b6
      have htl2 : ts.length ≤ 2 := by omega
      have hll : [PyData.str w].length + (ts.map Tm.d).length ≤ 100000 := by
        rw [List.length_map, List.length_cons, List.length_nil]
        omega
      repeat walk_at "d"
      refine w1_for (g := gName 8) (vs := [8]) (pgN n_one) ?_ g.calm g.po
      refine wi_tup ?_
      repeat walk_at "d"
      refine ⟨_, _, _, _, rfl, rfl, (by first | rfl | exact get_end _ _ | exact get_mid _ _ _ | exact get_mids _ _ _ | exact get_mids2 _ _ _ _), (by assumption), (by omega), ⟨es, rfl, ks, hk, hk1, hk2, hkw⟩, rfl, ?_⟩
      rintro d_b8 b8 ⟨hrx, hrz⟩ hG_b8 hc_b8
      try rw [set_end]
      try rw [set_mid]
      try rw [set_mids]
      try rw [set_mids2]
      repeat walk_at "d"
      refine ⟨_, rfl, ?_⟩
      refine ⟨fun q z => ∃ (x_one x_again x_bent_here x_once x_place : Sl) (b' : Bx), z = ⟨[.sh (.list (ns.map .int)), .sh (.list (cs.map .int)), .sh (.int (0 + (i : Int))), .ob om.length, .sh (dicD es), .sh (.int (0 + (j : Int))), .sh (.str w), .sh (.tuple (.str w :: ts.map Tm.d)), x_one, x_again, x_bent_here, x_once, x_place], om ++ [b'.o]⟩ ∧ b'.G ∧ b'.c ≤ b8.c + 2000 * (q : Int), ?_, ?_, ?_, ?_⟩
      · exact ⟨_, _, _, _, _, b8, rfl, hG_b8, by omega⟩
      · exact fun _ _ _ _ => trivial
      · rintro i1 y z hy ⟨x_one, x_again, x_bent_here, x_once, x_place, b9, rfl, hG_b9, hc_b9⟩
        rw [List.getElem?_map] at hy
        obtain ⟨d, hd, rfl⟩ := Option.map_eq_some_iff.mp hy
        have hi1 : i1 < 3 := (List.getElem?_eq_some_iff.mp hd).1
        have hT : Th 0 d := by
          have hm := List.mem_of_getElem? hd
          simp only [List.mem_cons, List.not_mem_nil, or_false] at hm
          rcases hm with rfl | rfl | rfl
          · exact .word hwo
          · exact .atom hwo htl2 hts
          · exact .rule hrx hrz
        refine gd_name (by simp) ?_
        repeat walk_at "d"
        refine ⟨_, _, rfl, hT.ask (by omega), rfl, ?_⟩
        repeat walk_at "d"
        refine w1_for (g := gName 9) (vs := [9]) (pgN n_again) ?_ g.calm g.po
        refine wi_rng1 g_range.g (by rw [g.mg]; exact B.range) ?_
        repeat walk_at "d"
        refine ⟨by decide, by decide, fun q z => ∃ (x_again x_bent_here x_once x_place : Sl) (b' : Bx), z = ⟨[.sh (.list (ns.map .int)), .sh (.list (cs.map .int)), .sh (.int (0 + (i : Int))), .ob om.length, .sh (dicD es), .sh (.int (0 + (j : Int))), .sh (.str w), .sh (.tuple (.str w :: ts.map Tm.d)), .sh d, x_again, x_bent_here, x_once, x_place], om ++ [b'.o]⟩ ∧ b'.G ∧ b'.c ≤ b9.c + 150 * (q : Int), ?_, ?_, ?_, ?_⟩
        · exact ⟨_, _, _, _, b9, rfl, hG_b9, by omega⟩
        · exact fun _ _ _ _ => trivial
        · rintro i2 y z hy ⟨x_again, x_bent_here, x_once, x_place, b10, rfl, hG_b10, hc_b10⟩
          obtain ⟨hi12, rfl⟩ := rngL_get hy
          have hi12 : i2 < 12 := hi12
          refine gd_name (by simp) ?_
          repeat walk_at "d"
          refine w1_for (g := gName 11) (vs := [11]) (pgN n_once) ?_ g.calm g.po
          refine wi_rng1 g_range.g (by rw [g.mg]; exact B.range) ?_
          repeat walk_at "d"
          refine ⟨_, _, _, _, rfl, rfl, (by first | rfl | exact get_end _ _ | exact get_mid _ _ _ | exact get_mids _ _ _ | exact get_mids2 _ _ _ _), (by assumption), (by omega), ⟨_, rfl, by omega, by omega⟩, rfl, ?_⟩
          rintro _ b11 ⟨_, m, e1, rfl, h0_m, h1_m⟩ hG_b11 hc_b11
          cases e1
          try rw [set_end]
          try rw [set_mid]
          try rw [set_mids]
          try rw [set_mids2]
          repeat walk_at "d"
          refine ⟨by omega, by omega, fun q z => ∃ (x_once x_place : Sl) (b' : Bx) (e : PyData), z = ⟨[.sh (.list (ns.map .int)), .sh (.list (cs.map .int)), .sh (.int (0 + (i : Int))), .ob om.length, .sh (dicD es), .sh (.int (0 + (j : Int))), .sh (.str w), .sh (.tuple (.str w :: ts.map Tm.d)), .sh d, .sh (.int (0 + (i2 : Int))), .sh e, x_once, x_place], om ++ [b'.o]⟩ ∧ Th q e ∧ b'.G ∧ b'.c ≤ b11.c + 40 * (q : Int), ?_, ?_, ?_, ?_⟩
          · exact ⟨_, _, b11, d, rfl, hT, hG_b11, by omega⟩
          · exact fun _ _ _ _ => trivial
          · rintro i3 y z hy ⟨x_once, x_place, b12, e, rfl, hTe, hG_b12, hc_b12⟩
            obtain ⟨hi3, rfl⟩ := rngL_get hy
            have hi3 : i3 ≤ 2 := by omega
            have c_bent := g.cf g_bent (D_bent (6 + 2 * i3))
            refine gd_name (by simp) ?_
            cases e with
            | dict _ => exact (sx_dict hTe.x).elim
            | none =>
              repeat walk_at "d"
              refine ⟨_, _, _, _, rfl, rfl, (by first | rfl | exact get_end _ _ | exact get_mid _ _ _ | exact get_mids _ _ _ | exact get_mids2 _ _ _ _), (by assumption), (by omega), rfl, rfl, ?_⟩
              rintro d_b13 b13 hm hG_b13 hc_b13
              try rw [set_end]
              try rw [set_mid]
              try rw [set_mids]
              try rw [set_mids2]
              repeat walk_at "d"
              exact loop_nx ⟨_, _, b13, _, rfl, Th.odd hm, hG_b13, by omega⟩
            | bool bo =>
              repeat walk_at "d"
              refine ⟨_, _, _, _, rfl, rfl, (by first | rfl | exact get_end _ _ | exact get_mid _ _ _ | exact get_mids _ _ _ | exact get_mids2 _ _ _ _), (by assumption), (by omega), rfl, rfl, ?_⟩
              rintro d_b13 b13 hm hG_b13 hc_b13
              try rw [set_end]
              try rw [set_mid]
              try rw [set_mids]
              try rw [set_mids2]
              repeat walk_at "d"
              exact loop_nx ⟨_, _, b13, _, rfl, Th.odd hm, hG_b13, by omega⟩
            | int i4 =>
              repeat walk_at "d"
              refine ⟨_, _, _, _, rfl, rfl, (by first | rfl | exact get_end _ _ | exact get_mid _ _ _ | exact get_mids _ _ _ | exact get_mids2 _ _ _ _), (by assumption), (by omega), rfl, rfl, ?_⟩
              rintro d_b13 b13 hm hG_b13 hc_b13
              try rw [set_end]
              try rw [set_mid]
              try rw [set_mids]
              try rw [set_mids2]
              repeat walk_at "d"
              exact loop_nx ⟨_, _, b13, _, rfl, Th.odd hm, hG_b13, by omega⟩
            | str s =>
              repeat walk_at "d"
              refine ⟨_, _, _, _, rfl, rfl, (by first | rfl | exact get_end _ _ | exact get_mid _ _ _ | exact get_mids _ _ _ | exact get_mids2 _ _ _ _), (by assumption), (by omega), rfl, rfl, ?_⟩
              rintro d_b13 b13 hm hG_b13 hc_b13
              try rw [set_end]
              try rw [set_mid]
              try rw [set_mids]
              try rw [set_mids2]
              repeat walk_at "d"
              exact loop_nx ⟨_, _, b13, _, rfl, Th.odd hm, hG_b13, by omega⟩
            | list ds =>
              repeat walk_at "d"
              refine ⟨_, _, _, _, rfl, rfl, (by first | rfl | exact get_end _ _ | exact get_mid _ _ _ | exact get_mids _ _ _ | exact get_mids2 _ _ _ _), (by assumption), (by omega), rfl, rfl, ?_⟩
              rintro d_b13 b13 hm hG_b13 hc_b13
              try rw [set_end]
              try rw [set_mid]
              try rw [set_mids]
              try rw [set_mids2]
              repeat walk_at "d"
              exact loop_nx ⟨_, _, b13, _, rfl, Th.odd hm, hG_b13, by omega⟩
            | tuple ds =>
              repeat walk_at "d"
              refine ⟨_, _, _, _, rfl, rfl, (by first | rfl | exact get_end _ _ | exact get_mid _ _ _ | exact get_mids _ _ _ | exact get_mids2 _ _ _ _), (by assumption), (by omega), ⟨.tuple ds, 7 + i3, rfl, hTe.x, by omega, by omega, by omega, by have := hTe.z; have : 2 ^ i3 ≤ 2 ^ 2 := Nat.pow_le_pow_right (by omega) hi3; omega⟩, rfl, ?_⟩
              rintro d_b13 b13 ⟨d0, e1, hx1, hz1⟩ hG_b13 hc_b13
              try rw [set_end]
              try rw [set_mid]
              try rw [set_mids]
              try rw [set_mids2]
              cases e1
              repeat walk_at "d"
              exact loop_nx ⟨_, _, b13, _, rfl, hTe.next (hx1 _ (by omega) (by omega) hTe.x) hz1, hG_b13, by omega⟩
          rintro z ⟨x_once, x_place, b12, e, rfl, hTe, hG_b12, hc_b12⟩
          rw [rngL_len] at hTe hc_b12
          refine seq_nx ?_
          repeat walk_at "d"
          refine ⟨_, _, rfl, hTe.ask (by omega), rfl, ?_⟩
          repeat walk_at "d"
          exact loop_nx ⟨_, _, _, _, b12, rfl, hG_b12, by omega⟩
        rintro z ⟨x_again, x_bent_here, x_once, x_place, b10, rfl, hG_b10, hc_b10⟩
        rw [rngL_len] at hc_b10
        have hc_b10 : b10.c ≤ b9.c + 150 * 12 := hc_b10
        repeat walk_at "d"
        exact loop_nx ⟨_, _, _, _, _, b10, rfl, hG_b10, by omega⟩
      rintro z ⟨x_one, x_again, x_bent_here, x_once, x_place, b9, rfl, hG_b9, hc_b9⟩
      simp only [List.length_map, List.length_cons, List.length_nil] at hc_b9
      repeat walk_at "d"
      exact loop_nx ⟨_, _, _, _, _, _, _, _, b9, rfl, hG_b9, by omega⟩
    rintro z ⟨x_turn, x_word, x_atom, x_one, x_again, x_bent_here, x_once, x_place, b3, rfl, hG_b3, hc_b3⟩
    repeat walk_at "d"
    exact loop_nx ⟨_, _, _, _, _, _, _, _, _, _, _, _, rfl⟩
  · rintro z ⟨x_k, x_box_here, x_counts_here, x_turn, x_word, x_atom, x_one, x_again, x_bent_here, x_once, x_place, om, rfl⟩
    repeat walk_at "d"
    exact fin_sh rfl hq
end

/-! ### the head: facts by names, the run -/
def d_is_variable : He.DefD := ⟨("is_variable", none), "is_variable", "is_variable", defArgs s_is_variable, defBody s_is_variable, defScope s_is_variable, [], []⟩
def d_parts_of : He.DefD := ⟨("parts_of", none), "parts_of", "parts_of", defArgs s_parts_of, defBody s_parts_of, defScope s_parts_of, [], []⟩
def d_is_term : He.DefD := ⟨("is_term", none), "is_term", "is_term", defArgs s_is_term, defBody s_is_term, defScope s_is_term, [], []⟩
def d_is_name : He.DefD := ⟨("is_name", none), "is_name", "is_name", defArgs s_is_name, defBody s_is_name, defScope s_is_name, [], []⟩
def d_is_atom : He.DefD := ⟨("is_atom", none), "is_atom", "is_atom", defArgs s_is_atom, defBody s_is_atom, defScope s_is_atom, [], []⟩
def d_is_pattern : He.DefD := ⟨("is_pattern", none), "is_pattern", "is_pattern", defArgs s_is_pattern, defBody s_is_pattern, defScope s_is_pattern, [], []⟩
def d_variables_as_they_stand : He.DefD := ⟨("variables_as_they_stand", none), "variables_as_they_stand", "variables_as_they_stand", defArgs s_variables_as_they_stand, defBody s_variables_as_they_stand, defScope s_variables_as_they_stand, [], []⟩
def d_is_head : He.DefD := ⟨("is_head", none), "is_head", "is_head", defArgs s_is_head, defBody s_is_head, defScope s_is_head, [], []⟩
def d_is_rule : He.DefD := ⟨("is_rule", none), "is_rule", "is_rule", defArgs s_is_rule, defBody s_is_rule, defScope s_is_rule, [], []⟩
def d_box : He.DefD := ⟨("_law_box", none), "_law_box", "_law_box", defArgs s_box, defBody s_box, defScope s_box, [], []⟩
def d_take : He.DefD := ⟨("_law_take", none), "_law_take", "_law_take", defArgs s_take, defBody s_take, defScope s_take, [], []⟩
def d_pick : He.DefD := ⟨("_law_pick", none), "_law_pick", "_law_pick", defArgs s_pick, defBody s_pick, defScope s_pick, [], []⟩
def d_folded : He.DefD := ⟨("_law_folded", none), "_law_folded", "_law_folded", defArgs s_folded, defBody s_folded, defScope s_folded, [], []⟩
def d_same : He.DefD := ⟨("_law_same", none), "_law_same", "_law_same", defArgs s_same, defBody s_same, defScope s_same, [], []⟩
def d_words : He.DefD := ⟨("_law_words", none), "_law_words", "_law_words", defArgs s_words, defBody s_words, defScope s_words, [], []⟩
def d_variable : He.DefD := ⟨("_law_variable", none), "_law_variable", "_law_variable", defArgs s_variable, defBody s_variable, defScope s_variable, [], []⟩
def d_term : He.DefD := ⟨("_law_term", none), "_law_term", "_law_term", defArgs s_term, defBody s_term, defScope s_term, [], []⟩
def d_counts : He.DefD := ⟨("_law_counts", none), "_law_counts", "_law_counts", defArgs s_counts, defBody s_counts, defScope s_counts, [], []⟩
def d_head : He.DefD := ⟨("_law_head", none), "_law_head", "_law_head", defArgs s_head, defBody s_head, defScope s_head, [], []⟩
def d_rule : He.DefD := ⟨("_law_rule", none), "_law_rule", "_law_rule", defArgs s_rule, defBody s_rule, defScope s_rule, [], []⟩
def d_own_is_name : He.DefD := ⟨("_law_is_name", none), "_law_is_name", "_law_is_name", defArgs s_own_is_name, defBody s_own_is_name, defScope s_own_is_name, [], []⟩
def d_own_is_variable : He.DefD := ⟨("_law_is_variable", none), "_law_is_variable", "_law_is_variable", defArgs s_own_is_variable, defBody s_own_is_variable, defScope s_own_is_variable, [], []⟩
def d_own_is_term : He.DefD := ⟨("_law_is_term", none), "_law_is_term", "_law_is_term", defArgs s_own_is_term, defBody s_own_is_term, defScope s_own_is_term, [], []⟩
def d_own_is_atom : He.DefD := ⟨("_law_is_atom", none), "_law_is_atom", "_law_is_atom", defArgs s_own_is_atom, defBody s_own_is_atom, defScope s_own_is_atom, [], []⟩
def d_own_is_rule : He.DefD := ⟨("_law_is_rule", none), "_law_is_rule", "_law_is_rule", defArgs s_own_is_rule, defBody s_own_is_rule, defScope s_own_is_rule, [], []⟩
def d_odd : He.DefD := ⟨("_law_odd", none), "_law_odd", "_law_odd", defArgs s_odd, defBody s_odd, defScope s_odd, [], []⟩
def d_bent : He.DefD := ⟨("_law_bent", none), "_law_bent", "_law_bent", defArgs s_bent, defBody s_bent, defScope s_bent, [], []⟩
def d_asked_right : He.DefD := ⟨("_law_asked_right", none), "_law_asked_right", "_law_asked_right", defArgs s_asked_right, defBody s_asked_right, defScope s_asked_right, [], []⟩
def d_law : He.DefD := ⟨("law", none), "law", "law", defArgs s_law, defBody s_law, defScope s_law, [], []⟩
def fn : List He.DefD := [d_is_variable, d_parts_of, d_is_term, d_is_name, d_is_atom, d_is_pattern, d_variables_as_they_stand, d_is_head, d_is_rule, d_box, d_take, d_pick, d_folded, d_same, d_words, d_variable, d_term, d_counts, d_head, d_rule, d_own_is_name, d_own_is_variable, d_own_is_term, d_own_is_atom, d_own_is_rule, d_odd, d_bent, d_asked_right, d_law]
def fa : List He.Fa := [.glo "is_variable", .glo "parts_of", .glo "is_term", .glo "is_name", .glo "is_atom", .glo "is_pattern", .glo "variables_as_they_stand", .glo "is_head", .glo "is_rule", .glo "_law_box", .glo "_law_take", .glo "_law_pick", .glo "_law_folded", .glo "_law_same", .glo "_law_words", .glo "_law_variable", .glo "_law_term", .glo "_law_counts", .glo "_law_head", .glo "_law_rule", .glo "_law_is_name", .glo "_law_is_variable", .glo "_law_is_term", .glo "_law_is_atom", .glo "_law_is_rule", .glo "_law_odd", .glo "_law_bent", .glo "_law_asked_right", .glo "law", .free "len", .free "abs", .free "int", .free "isinstance", .free "list", .free "tuple", .free "str", .free "bool", .free "all", .free "any", .free "zip", .free "range", .free "min", .free "max", .free "sorted", .free "set", .free "dict", .free "repr", .free "enumerate", .free "sum", .free "reversed", .free "type", .free "ord", .free "chr", .int "MOST_VARIABLE" 99, .int "MOST_LETTERS" 6, .int "MOST_TERMS" 2, .int "MOST_BODY" 3, .glo "PARTS", .str "LETTERS" "abcdefghijklmnopqrstuvwxyz", .str "NO_NAME" "if"]
def ts : List He.Tab := [(fun K => He.ga K "PARTS", ["0", "s", "f"])]
def ex (K : PySem.W.Frag) : Bool := He.valsB K (He.ga K "PARTS") [("0", He.Dv.int 0), ("s", He.Dv.int 1), ("f", He.Dv.int 2)]
abbrev R : PySem.W.OpenRow := PySem.W.OpenLaw.row PySem.Challenge.rw_ringproofs_k09_what_names_atoms_and_rule
abbrev hk : PySem.W.Hook := He.hookX 4 fa fn ts [] ex
def ob (s : PySem.W.SharedT) : He.AlX := He.obsX 4 fa fn ts [] ex (HandSHeadRun.getT s)
theorem ob_eq (s : PySem.W.SharedT) : ob s = hk.obs s.abs := He.obsX_eq (HandSHeadRun.getT_eq s)
theorem run_false (w : World) : HandSHeadRun.RunEq R (PySem.W.view R.prog [38]) hk ob 4000 ("MOST_VARIABLE" :: "PARTS" :: "is_variable" :: "parts_of" :: "is_term" :: "LETTERS" :: "MOST_LETTERS" :: "NO_NAME" :: "MOST_TERMS" :: "MOST_BODY" :: "is_name" :: "is_atom" :: "is_pattern" :: "variables_as_they_stand" :: "is_head" :: "is_rule" :: "_law_box" :: "_law_take" :: "_law_pick" :: "_law_folded" :: "_law_same" :: "_law_words" :: "_law_variable" :: "_law_term" :: "_law_counts" :: "_law_head" :: "_law_rule" :: "_law_is_name" :: "_law_is_variable" :: "_law_is_term" :: "_law_is_atom" :: "_law_is_rule" :: "_law_odd" :: "_law_bent" :: "_law_asked_right" :: [] : List Str) (w.withFollow "special-get-raises" false) := by
  intro os
  kernel_rfl
theorem run_true (w : World) : HandSHeadRun.RunEq R (PySem.W.view R.prog [38]) hk ob 4000 ("MOST_VARIABLE" :: "PARTS" :: "is_variable" :: "parts_of" :: "is_term" :: "LETTERS" :: "MOST_LETTERS" :: "NO_NAME" :: "MOST_TERMS" :: "MOST_BODY" :: "is_name" :: "is_atom" :: "is_pattern" :: "variables_as_they_stand" :: "is_head" :: "is_rule" :: "_law_box" :: "_law_take" :: "_law_pick" :: "_law_folded" :: "_law_same" :: "_law_words" :: "_law_variable" :: "_law_term" :: "_law_counts" :: "_law_head" :: "_law_rule" :: "_law_is_name" :: "_law_is_variable" :: "_law_is_term" :: "_law_is_atom" :: "_law_is_rule" :: "_law_odd" :: "_law_bent" :: "_law_asked_right" :: [] : List Str) (w.withFollow "special-get-raises" true) := by
  intro os
  kernel_rfl
theorem run (w : World) : HandSHeadRun.RunEq R (PySem.W.view R.prog [38]) hk ob 4000 ("MOST_VARIABLE" :: "PARTS" :: "is_variable" :: "parts_of" :: "is_term" :: "LETTERS" :: "MOST_LETTERS" :: "NO_NAME" :: "MOST_TERMS" :: "MOST_BODY" :: "is_name" :: "is_atom" :: "is_pattern" :: "variables_as_they_stand" :: "is_head" :: "is_rule" :: "_law_box" :: "_law_take" :: "_law_pick" :: "_law_folded" :: "_law_same" :: "_law_words" :: "_law_variable" :: "_law_term" :: "_law_counts" :: "_law_head" :: "_law_rule" :: "_law_is_name" :: "_law_is_variable" :: "_law_is_term" :: "_law_is_atom" :: "_law_is_rule" :: "_law_odd" :: "_law_bent" :: "_law_asked_right" :: [] : List Str) w := PySem.W.byRow2 "special-get-raises" (P := fun w => HandSHeadRun.RunEq R (PySem.W.view R.prog [38]) hk ob 4000 ("MOST_VARIABLE" :: "PARTS" :: "is_variable" :: "parts_of" :: "is_term" :: "LETTERS" :: "MOST_LETTERS" :: "NO_NAME" :: "MOST_TERMS" :: "MOST_BODY" :: "is_name" :: "is_atom" :: "is_pattern" :: "variables_as_they_stand" :: "is_head" :: "is_rule" :: "_law_box" :: "_law_take" :: "_law_pick" :: "_law_folded" :: "_law_same" :: "_law_words" :: "_law_variable" :: "_law_term" :: "_law_counts" :: "_law_head" :: "_law_rule" :: "_law_is_name" :: "_law_is_variable" :: "_law_is_term" :: "_law_is_atom" :: "_law_is_rule" :: "_law_odd" :: "_law_bent" :: "_law_asked_right" :: [] : List Str) w) run_false run_true w
section
variable {K : PySem.W.Frag} {h : Heap} {mg : Str → Option Value} {w : World}
theorem bare_of (X : K.In h) (G : h.Ns mainGlobals mg) (c : He.SaysD fa fn K) : Bare mg where
  len := He.free_ok X G (c.fact 29 (f := .free "len") rfl)
  abs := He.free_ok X G (c.fact 30 (f := .free "abs") rfl)
  int := He.free_ok X G (c.fact 31 (f := .free "int") rfl)
  isi := He.free_ok X G (c.fact 32 (f := .free "isinstance") rfl)
  list := He.free_ok X G (c.fact 33 (f := .free "list") rfl)
  tup := He.free_ok X G (c.fact 34 (f := .free "tuple") rfl)
  str := He.free_ok X G (c.fact 35 (f := .free "str") rfl)
  bool := He.free_ok X G (c.fact 36 (f := .free "bool") rfl)
  all := He.free_ok X G (c.fact 37 (f := .free "all") rfl)
  any := He.free_ok X G (c.fact 38 (f := .free "any") rfl)
  zip := He.free_ok X G (c.fact 39 (f := .free "zip") rfl)
  range := He.free_ok X G (c.fact 40 (f := .free "range") rfl)
  min := He.free_ok X G (c.fact 41 (f := .free "min") rfl)
  max := He.free_ok X G (c.fact 42 (f := .free "max") rfl)
  sorted := He.free_ok X G (c.fact 43 (f := .free "sorted") rfl)
  set := He.free_ok X G (c.fact 44 (f := .free "set") rfl)
  dict := He.free_ok X G (c.fact 45 (f := .free "dict") rfl)
  repr := He.free_ok X G (c.fact 46 (f := .free "repr") rfl)
  enum := He.free_ok X G (c.fact 47 (f := .free "enumerate") rfl)
  sum := He.free_ok X G (c.fact 48 (f := .free "sum") rfl)
  rev := He.free_ok X G (c.fact 49 (f := .free "reversed") rfl)
  type := He.free_ok X G (c.fact 50 (f := .free "type") rfl)
  ord := He.free_ok X G (c.fact 51 (f := .free "ord") rfl)
  chr := He.free_ok X G (c.fact 52 (f := .free "chr") rfl)
theorem glo_is_variable (X : K.In h) (G : h.Ns mainGlobals mg) (c : He.SaysD fa fn K) : mg "is_variable" = some (.ref (He.ga K "is_variable")) := He.glo_ok X G (c.fact 0 (f := .glo "is_variable") rfl)
theorem fun_is_variable (c : He.SaysD fa fn K) : ∃ fd, Fun (thin K) "is_variable" "is_variable" s_is_variable (He.ga K "is_variable") fd ∧ Binds (thin K) fd p_is_variable [] := by
  obtain ⟨fd, F⟩ := c.def_ 0 (d := d_is_variable) rfl
  have F2 := thin_fun (st := s_is_variable) F
  exact ⟨fd, F2, F2.binds fun _ _ _ _ _ _ us hl => match us, hl with | [_], _ => rfl⟩
theorem glo_parts_of (X : K.In h) (G : h.Ns mainGlobals mg) (c : He.SaysD fa fn K) : mg "parts_of" = some (.ref (He.ga K "parts_of")) := He.glo_ok X G (c.fact 1 (f := .glo "parts_of") rfl)
theorem fun_parts_of (c : He.SaysD fa fn K) : ∃ fd, Fun (thin K) "parts_of" "parts_of" s_parts_of (He.ga K "parts_of") fd ∧ Binds (thin K) fd p_parts_of [] := by
  obtain ⟨fd, F⟩ := c.def_ 1 (d := d_parts_of) rfl
  have F2 := thin_fun (st := s_parts_of) F
  exact ⟨fd, F2, F2.binds fun _ _ _ _ _ _ us hl => match us, hl with | [_], _ => rfl⟩
theorem glo_is_term (X : K.In h) (G : h.Ns mainGlobals mg) (c : He.SaysD fa fn K) : mg "is_term" = some (.ref (He.ga K "is_term")) := He.glo_ok X G (c.fact 2 (f := .glo "is_term") rfl)
theorem fun_is_term (c : He.SaysD fa fn K) : ∃ fd, Fun (thin K) "is_term" "is_term" s_is_term (He.ga K "is_term") fd ∧ Binds (thin K) fd p_is_term [] := by
  obtain ⟨fd, F⟩ := c.def_ 2 (d := d_is_term) rfl
  have F2 := thin_fun (st := s_is_term) F
  exact ⟨fd, F2, F2.binds fun _ _ _ _ _ _ us hl => match us, hl with | [_], _ => rfl⟩
theorem glo_is_name (X : K.In h) (G : h.Ns mainGlobals mg) (c : He.SaysD fa fn K) : mg "is_name" = some (.ref (He.ga K "is_name")) := He.glo_ok X G (c.fact 3 (f := .glo "is_name") rfl)
theorem fun_is_name (c : He.SaysD fa fn K) : ∃ fd, Fun (thin K) "is_name" "is_name" s_is_name (He.ga K "is_name") fd ∧ Binds (thin K) fd p_is_name [] := by
  obtain ⟨fd, F⟩ := c.def_ 3 (d := d_is_name) rfl
  have F2 := thin_fun (st := s_is_name) F
  exact ⟨fd, F2, F2.binds fun _ _ _ _ _ _ us hl => match us, hl with | [_], _ => rfl⟩
theorem glo_is_atom (X : K.In h) (G : h.Ns mainGlobals mg) (c : He.SaysD fa fn K) : mg "is_atom" = some (.ref (He.ga K "is_atom")) := He.glo_ok X G (c.fact 4 (f := .glo "is_atom") rfl)
theorem fun_is_atom (c : He.SaysD fa fn K) : ∃ fd, Fun (thin K) "is_atom" "is_atom" s_is_atom (He.ga K "is_atom") fd ∧ Binds (thin K) fd p_is_atom [] := by
  obtain ⟨fd, F⟩ := c.def_ 4 (d := d_is_atom) rfl
  have F2 := thin_fun (st := s_is_atom) F
  exact ⟨fd, F2, F2.binds fun _ _ _ _ _ _ us hl => match us, hl with | [_], _ => rfl⟩
theorem glo_is_pattern (X : K.In h) (G : h.Ns mainGlobals mg) (c : He.SaysD fa fn K) : mg "is_pattern" = some (.ref (He.ga K "is_pattern")) := He.glo_ok X G (c.fact 5 (f := .glo "is_pattern") rfl)
theorem fun_is_pattern (c : He.SaysD fa fn K) : ∃ fd, Fun (thin K) "is_pattern" "is_pattern" s_is_pattern (He.ga K "is_pattern") fd ∧ Binds (thin K) fd p_is_pattern [] := by
  obtain ⟨fd, F⟩ := c.def_ 5 (d := d_is_pattern) rfl
  have F2 := thin_fun (st := s_is_pattern) F
  exact ⟨fd, F2, F2.binds fun _ _ _ _ _ _ us hl => match us, hl with | [_], _ => rfl⟩
theorem glo_variables_as_they_stand (X : K.In h) (G : h.Ns mainGlobals mg) (c : He.SaysD fa fn K) : mg "variables_as_they_stand" = some (.ref (He.ga K "variables_as_they_stand")) := He.glo_ok X G (c.fact 6 (f := .glo "variables_as_they_stand") rfl)
theorem fun_variables_as_they_stand (c : He.SaysD fa fn K) : ∃ fd, Fun (thin K) "variables_as_they_stand" "variables_as_they_stand" s_variables_as_they_stand (He.ga K "variables_as_they_stand") fd ∧ Binds (thin K) fd p_variables_as_they_stand [] := by
  obtain ⟨fd, F⟩ := c.def_ 6 (d := d_variables_as_they_stand) rfl
  have F2 := thin_fun (st := s_variables_as_they_stand) F
  exact ⟨fd, F2, F2.binds fun _ _ _ _ _ _ us hl => match us, hl with | [_], _ => rfl⟩
theorem glo_is_head (X : K.In h) (G : h.Ns mainGlobals mg) (c : He.SaysD fa fn K) : mg "is_head" = some (.ref (He.ga K "is_head")) := He.glo_ok X G (c.fact 7 (f := .glo "is_head") rfl)
theorem fun_is_head (c : He.SaysD fa fn K) : ∃ fd, Fun (thin K) "is_head" "is_head" s_is_head (He.ga K "is_head") fd ∧ Binds (thin K) fd p_is_head [] := by
  obtain ⟨fd, F⟩ := c.def_ 7 (d := d_is_head) rfl
  have F2 := thin_fun (st := s_is_head) F
  exact ⟨fd, F2, F2.binds fun _ _ _ _ _ _ us hl => match us, hl with | [_], _ => rfl⟩
theorem glo_is_rule (X : K.In h) (G : h.Ns mainGlobals mg) (c : He.SaysD fa fn K) : mg "is_rule" = some (.ref (He.ga K "is_rule")) := He.glo_ok X G (c.fact 8 (f := .glo "is_rule") rfl)
theorem fun_is_rule (c : He.SaysD fa fn K) : ∃ fd, Fun (thin K) "is_rule" "is_rule" s_is_rule (He.ga K "is_rule") fd ∧ Binds (thin K) fd p_is_rule [] := by
  obtain ⟨fd, F⟩ := c.def_ 8 (d := d_is_rule) rfl
  have F2 := thin_fun (st := s_is_rule) F
  exact ⟨fd, F2, F2.binds fun _ _ _ _ _ _ us hl => match us, hl with | [_], _ => rfl⟩
theorem glo_box (X : K.In h) (G : h.Ns mainGlobals mg) (c : He.SaysD fa fn K) : mg "_law_box" = some (.ref (He.ga K "_law_box")) := He.glo_ok X G (c.fact 9 (f := .glo "_law_box") rfl)
theorem fun_box (c : He.SaysD fa fn K) : ∃ fd, Fun (thin K) "_law_box" "_law_box" s_box (He.ga K "_law_box") fd ∧ Binds (thin K) fd p_box [] := by
  obtain ⟨fd, F⟩ := c.def_ 9 (d := d_box) rfl
  have F2 := thin_fun (st := s_box) F
  exact ⟨fd, F2, F2.binds fun _ _ _ _ _ _ us hl => match us, hl with | [_, _], _ => rfl⟩
theorem glo_take (X : K.In h) (G : h.Ns mainGlobals mg) (c : He.SaysD fa fn K) : mg "_law_take" = some (.ref (He.ga K "_law_take")) := He.glo_ok X G (c.fact 10 (f := .glo "_law_take") rfl)
theorem fun_take (c : He.SaysD fa fn K) : ∃ fd, Fun (thin K) "_law_take" "_law_take" s_take (He.ga K "_law_take") fd ∧ Binds (thin K) fd p_take [] := by
  obtain ⟨fd, F⟩ := c.def_ 10 (d := d_take) rfl
  have F2 := thin_fun (st := s_take) F
  exact ⟨fd, F2, F2.binds fun _ _ _ _ _ _ us hl => match us, hl with | [_, _], _ => rfl⟩
theorem glo_pick (X : K.In h) (G : h.Ns mainGlobals mg) (c : He.SaysD fa fn K) : mg "_law_pick" = some (.ref (He.ga K "_law_pick")) := He.glo_ok X G (c.fact 11 (f := .glo "_law_pick") rfl)
theorem fun_pick (c : He.SaysD fa fn K) : ∃ fd, Fun (thin K) "_law_pick" "_law_pick" s_pick (He.ga K "_law_pick") fd ∧ Binds (thin K) fd p_pick [] := by
  obtain ⟨fd, F⟩ := c.def_ 11 (d := d_pick) rfl
  have F2 := thin_fun (st := s_pick) F
  exact ⟨fd, F2, F2.binds fun _ _ _ _ _ _ us hl => match us, hl with | [_, _], _ => rfl⟩
theorem glo_folded (X : K.In h) (G : h.Ns mainGlobals mg) (c : He.SaysD fa fn K) : mg "_law_folded" = some (.ref (He.ga K "_law_folded")) := He.glo_ok X G (c.fact 12 (f := .glo "_law_folded") rfl)
theorem fun_folded (c : He.SaysD fa fn K) : ∃ fd, Fun (thin K) "_law_folded" "_law_folded" s_folded (He.ga K "_law_folded") fd ∧ Binds (thin K) fd p_folded [] := by
  obtain ⟨fd, F⟩ := c.def_ 12 (d := d_folded) rfl
  have F2 := thin_fun (st := s_folded) F
  exact ⟨fd, F2, F2.binds fun _ _ _ _ _ _ us hl => match us, hl with | [_, _], _ => rfl⟩
theorem glo_same (X : K.In h) (G : h.Ns mainGlobals mg) (c : He.SaysD fa fn K) : mg "_law_same" = some (.ref (He.ga K "_law_same")) := He.glo_ok X G (c.fact 13 (f := .glo "_law_same") rfl)
theorem fun_same (c : He.SaysD fa fn K) : ∃ fd, Fun (thin K) "_law_same" "_law_same" s_same (He.ga K "_law_same") fd ∧ Binds (thin K) fd p_same [] := by
  obtain ⟨fd, F⟩ := c.def_ 13 (d := d_same) rfl
  have F2 := thin_fun (st := s_same) F
  exact ⟨fd, F2, F2.binds fun _ _ _ _ _ _ us hl => match us, hl with | [_, _], _ => rfl⟩
theorem glo_words (X : K.In h) (G : h.Ns mainGlobals mg) (c : He.SaysD fa fn K) : mg "_law_words" = some (.ref (He.ga K "_law_words")) := He.glo_ok X G (c.fact 14 (f := .glo "_law_words") rfl)
theorem fun_words (c : He.SaysD fa fn K) : ∃ fd, Fun (thin K) "_law_words" "_law_words" s_words (He.ga K "_law_words") fd ∧ Binds (thin K) fd p_words [] := by
  obtain ⟨fd, F⟩ := c.def_ 14 (d := d_words) rfl
  have F2 := thin_fun (st := s_words) F
  exact ⟨fd, F2, F2.binds fun _ _ _ _ _ _ us hl => match us, hl with | [_, _], _ => rfl⟩
theorem glo_variable (X : K.In h) (G : h.Ns mainGlobals mg) (c : He.SaysD fa fn K) : mg "_law_variable" = some (.ref (He.ga K "_law_variable")) := He.glo_ok X G (c.fact 15 (f := .glo "_law_variable") rfl)
theorem fun_variable (c : He.SaysD fa fn K) : ∃ fd, Fun (thin K) "_law_variable" "_law_variable" s_variable (He.ga K "_law_variable") fd ∧ Binds (thin K) fd p_variable [] := by
  obtain ⟨fd, F⟩ := c.def_ 15 (d := d_variable) rfl
  have F2 := thin_fun (st := s_variable) F
  exact ⟨fd, F2, F2.binds fun _ _ _ _ _ _ us hl => match us, hl with | [_], _ => rfl⟩
theorem glo_term (X : K.In h) (G : h.Ns mainGlobals mg) (c : He.SaysD fa fn K) : mg "_law_term" = some (.ref (He.ga K "_law_term")) := He.glo_ok X G (c.fact 16 (f := .glo "_law_term") rfl)
theorem fun_term (c : He.SaysD fa fn K) : ∃ fd, Fun (thin K) "_law_term" "_law_term" s_term (He.ga K "_law_term") fd ∧ Binds (thin K) fd p_term [] := by
  obtain ⟨fd, F⟩ := c.def_ 16 (d := d_term) rfl
  have F2 := thin_fun (st := s_term) F
  exact ⟨fd, F2, F2.binds fun _ _ _ _ _ _ us hl => match us, hl with | [_, _], _ => rfl⟩
theorem glo_counts (X : K.In h) (G : h.Ns mainGlobals mg) (c : He.SaysD fa fn K) : mg "_law_counts" = some (.ref (He.ga K "_law_counts")) := He.glo_ok X G (c.fact 17 (f := .glo "_law_counts") rfl)
theorem fun_counts (c : He.SaysD fa fn K) : ∃ fd, Fun (thin K) "_law_counts" "_law_counts" s_counts (He.ga K "_law_counts") fd ∧ Binds (thin K) fd p_counts [] := by
  obtain ⟨fd, F⟩ := c.def_ 17 (d := d_counts) rfl
  have F2 := thin_fun (st := s_counts) F
  exact ⟨fd, F2, F2.binds fun _ _ _ _ _ _ us hl => match us, hl with | [_, _], _ => rfl⟩
theorem glo_head (X : K.In h) (G : h.Ns mainGlobals mg) (c : He.SaysD fa fn K) : mg "_law_head" = some (.ref (He.ga K "_law_head")) := He.glo_ok X G (c.fact 18 (f := .glo "_law_head") rfl)
theorem fun_head (c : He.SaysD fa fn K) : ∃ fd, Fun (thin K) "_law_head" "_law_head" s_head (He.ga K "_law_head") fd ∧ Binds (thin K) fd p_head [] := by
  obtain ⟨fd, F⟩ := c.def_ 18 (d := d_head) rfl
  have F2 := thin_fun (st := s_head) F
  exact ⟨fd, F2, F2.binds fun _ _ _ _ _ _ us hl => match us, hl with | [_, _, _], _ => rfl⟩
theorem glo_rule (X : K.In h) (G : h.Ns mainGlobals mg) (c : He.SaysD fa fn K) : mg "_law_rule" = some (.ref (He.ga K "_law_rule")) := He.glo_ok X G (c.fact 19 (f := .glo "_law_rule") rfl)
theorem fun_rule (c : He.SaysD fa fn K) : ∃ fd, Fun (thin K) "_law_rule" "_law_rule" s_rule (He.ga K "_law_rule") fd ∧ Binds (thin K) fd p_rule [] := by
  obtain ⟨fd, F⟩ := c.def_ 19 (d := d_rule) rfl
  have F2 := thin_fun (st := s_rule) F
  exact ⟨fd, F2, F2.binds fun _ _ _ _ _ _ us hl => match us, hl with | [_, _], _ => rfl⟩
theorem glo_own_is_name (X : K.In h) (G : h.Ns mainGlobals mg) (c : He.SaysD fa fn K) : mg "_law_is_name" = some (.ref (He.ga K "_law_is_name")) := He.glo_ok X G (c.fact 20 (f := .glo "_law_is_name") rfl)
theorem fun_own_is_name (c : He.SaysD fa fn K) : ∃ fd, Fun (thin K) "_law_is_name" "_law_is_name" s_own_is_name (He.ga K "_law_is_name") fd ∧ Binds (thin K) fd p_own_is_name [] := by
  obtain ⟨fd, F⟩ := c.def_ 20 (d := d_own_is_name) rfl
  have F2 := thin_fun (st := s_own_is_name) F
  exact ⟨fd, F2, F2.binds fun _ _ _ _ _ _ us hl => match us, hl with | [_], _ => rfl⟩
theorem glo_own_is_variable (X : K.In h) (G : h.Ns mainGlobals mg) (c : He.SaysD fa fn K) : mg "_law_is_variable" = some (.ref (He.ga K "_law_is_variable")) := He.glo_ok X G (c.fact 21 (f := .glo "_law_is_variable") rfl)
theorem fun_own_is_variable (c : He.SaysD fa fn K) : ∃ fd, Fun (thin K) "_law_is_variable" "_law_is_variable" s_own_is_variable (He.ga K "_law_is_variable") fd ∧ Binds (thin K) fd p_own_is_variable [] := by
  obtain ⟨fd, F⟩ := c.def_ 21 (d := d_own_is_variable) rfl
  have F2 := thin_fun (st := s_own_is_variable) F
  exact ⟨fd, F2, F2.binds fun _ _ _ _ _ _ us hl => match us, hl with | [_], _ => rfl⟩
theorem glo_own_is_term (X : K.In h) (G : h.Ns mainGlobals mg) (c : He.SaysD fa fn K) : mg "_law_is_term" = some (.ref (He.ga K "_law_is_term")) := He.glo_ok X G (c.fact 22 (f := .glo "_law_is_term") rfl)
theorem fun_own_is_term (c : He.SaysD fa fn K) : ∃ fd, Fun (thin K) "_law_is_term" "_law_is_term" s_own_is_term (He.ga K "_law_is_term") fd ∧ Binds (thin K) fd p_own_is_term [] := by
  obtain ⟨fd, F⟩ := c.def_ 22 (d := d_own_is_term) rfl
  have F2 := thin_fun (st := s_own_is_term) F
  exact ⟨fd, F2, F2.binds fun _ _ _ _ _ _ us hl => match us, hl with | [_], _ => rfl⟩
theorem glo_own_is_atom (X : K.In h) (G : h.Ns mainGlobals mg) (c : He.SaysD fa fn K) : mg "_law_is_atom" = some (.ref (He.ga K "_law_is_atom")) := He.glo_ok X G (c.fact 23 (f := .glo "_law_is_atom") rfl)
theorem fun_own_is_atom (c : He.SaysD fa fn K) : ∃ fd, Fun (thin K) "_law_is_atom" "_law_is_atom" s_own_is_atom (He.ga K "_law_is_atom") fd ∧ Binds (thin K) fd p_own_is_atom [] := by
  obtain ⟨fd, F⟩ := c.def_ 23 (d := d_own_is_atom) rfl
  have F2 := thin_fun (st := s_own_is_atom) F
  exact ⟨fd, F2, F2.binds fun _ _ _ _ _ _ us hl => match us, hl with | [_], _ => rfl⟩
theorem glo_own_is_rule (X : K.In h) (G : h.Ns mainGlobals mg) (c : He.SaysD fa fn K) : mg "_law_is_rule" = some (.ref (He.ga K "_law_is_rule")) := He.glo_ok X G (c.fact 24 (f := .glo "_law_is_rule") rfl)
theorem fun_own_is_rule (c : He.SaysD fa fn K) : ∃ fd, Fun (thin K) "_law_is_rule" "_law_is_rule" s_own_is_rule (He.ga K "_law_is_rule") fd ∧ Binds (thin K) fd p_own_is_rule [] := by
  obtain ⟨fd, F⟩ := c.def_ 24 (d := d_own_is_rule) rfl
  have F2 := thin_fun (st := s_own_is_rule) F
  exact ⟨fd, F2, F2.binds fun _ _ _ _ _ _ us hl => match us, hl with | [_], _ => rfl⟩
theorem glo_odd (X : K.In h) (G : h.Ns mainGlobals mg) (c : He.SaysD fa fn K) : mg "_law_odd" = some (.ref (He.ga K "_law_odd")) := He.glo_ok X G (c.fact 25 (f := .glo "_law_odd") rfl)
theorem fun_odd (c : He.SaysD fa fn K) : ∃ fd, Fun (thin K) "_law_odd" "_law_odd" s_odd (He.ga K "_law_odd") fd ∧ Binds (thin K) fd p_odd [] := by
  obtain ⟨fd, F⟩ := c.def_ 25 (d := d_odd) rfl
  have F2 := thin_fun (st := s_odd) F
  exact ⟨fd, F2, F2.binds fun _ _ _ _ _ _ us hl => match us, hl with | [_], _ => rfl⟩
theorem glo_bent (X : K.In h) (G : h.Ns mainGlobals mg) (c : He.SaysD fa fn K) : mg "_law_bent" = some (.ref (He.ga K "_law_bent")) := He.glo_ok X G (c.fact 26 (f := .glo "_law_bent") rfl)
theorem fun_bent (c : He.SaysD fa fn K) : ∃ fd, Fun (thin K) "_law_bent" "_law_bent" s_bent (He.ga K "_law_bent") fd ∧ Binds (thin K) fd p_bent [] := by
  obtain ⟨fd, F⟩ := c.def_ 26 (d := d_bent) rfl
  have F2 := thin_fun (st := s_bent) F
  exact ⟨fd, F2, F2.binds fun _ _ _ _ _ _ us hl => match us, hl with | [_, _], _ => rfl⟩
theorem glo_asked_right (X : K.In h) (G : h.Ns mainGlobals mg) (c : He.SaysD fa fn K) : mg "_law_asked_right" = some (.ref (He.ga K "_law_asked_right")) := He.glo_ok X G (c.fact 27 (f := .glo "_law_asked_right") rfl)
theorem fun_asked_right (c : He.SaysD fa fn K) : ∃ fd, Fun (thin K) "_law_asked_right" "_law_asked_right" s_asked_right (He.ga K "_law_asked_right") fd ∧ Binds (thin K) fd p_asked_right [] := by
  obtain ⟨fd, F⟩ := c.def_ 27 (d := d_asked_right) rfl
  have F2 := thin_fun (st := s_asked_right) F
  exact ⟨fd, F2, F2.binds fun _ _ _ _ _ _ us hl => match us, hl with | [_], _ => rfl⟩
theorem glo_law (X : K.In h) (G : h.Ns mainGlobals mg) (c : He.SaysD fa fn K) : mg "law" = some (.ref (He.ga K "law")) := He.glo_ok X G (c.fact 28 (f := .glo "law") rfl)
theorem fun_law (c : He.SaysD fa fn K) : ∃ fd, Fun (thin K) "law" "law" s_law (He.ga K "law") fd ∧ Binds (thin K) fd p_law [] := by
  obtain ⟨fd, F⟩ := c.def_ 28 (d := d_law) rfl
  have F2 := thin_fun (st := s_law) F
  exact ⟨fd, F2, F2.binds fun _ _ _ _ _ _ us hl => match us, hl with | [_], _ => rfl⟩
theorem int_MOST_VARIABLE (X : K.In h) (G : h.Ns mainGlobals mg) (c : He.SaysD fa fn K) : ∃ t, mg "MOST_VARIABLE" = some (.int 99 t) := He.int_ok X G (c.fact 53 (f := .int "MOST_VARIABLE" 99) rfl)
theorem int_MOST_LETTERS (X : K.In h) (G : h.Ns mainGlobals mg) (c : He.SaysD fa fn K) : ∃ t, mg "MOST_LETTERS" = some (.int 6 t) := He.int_ok X G (c.fact 54 (f := .int "MOST_LETTERS" 6) rfl)
theorem int_MOST_TERMS (X : K.In h) (G : h.Ns mainGlobals mg) (c : He.SaysD fa fn K) : ∃ t, mg "MOST_TERMS" = some (.int 2 t) := He.int_ok X G (c.fact 55 (f := .int "MOST_TERMS" 2) rfl)
theorem int_MOST_BODY (X : K.In h) (G : h.Ns mainGlobals mg) (c : He.SaysD fa fn K) : ∃ t, mg "MOST_BODY" = some (.int 3 t) := He.int_ok X G (c.fact 56 (f := .int "MOST_BODY" 3) rfl)
theorem str_LETTERS (X : K.In h) (G : h.Ns mainGlobals mg) (c : He.SaysD fa fn K) : ∃ t, mg "LETTERS" = some (.str "abcdefghijklmnopqrstuvwxyz" t) := He.str_ok X G (c.fact 58 (f := .str "LETTERS" "abcdefghijklmnopqrstuvwxyz") rfl)
theorem str_NO_NAME (X : K.In h) (G : h.Ns mainGlobals mg) (c : He.SaysD fa fn K) : ∃ t, mg "NO_NAME" = some (.str "if" t) := He.str_ok X G (c.fact 59 (f := .str "NO_NAME" "if") rfl)
def kv_PARTS : List (Str × Int) := [("0", 0), ("s", 1), ("f", 2)]
theorem tab_PARTS (X : K.In h) (G : h.Ns mainGlobals mg) (c : He.SaysX fa fn ts [] ex w h K) : TabG (thin K) w mg "PARTS" (fun k => kv_PARTS.lookup k) := by
  have e : ts.map (fun t => He.dicW K (t.1 K)) = ts.map fun t => some (He.keysIn w.params t.2) := congrArg (fun z : He.AlT => z.2) c.t
  have e2 : (ts.map fun t => He.dicW K (t.1 K))[0]? = (ts.map fun t => some (He.keysIn w.params t.2))[0]? := by rw [e]
  exact tabG_mk (He.glo_ok X G (c.t.d.fact 57 (f := .glo "PARTS") rfl)) (Option.some.inj e2) c.more
end
abbrev most : Nat := 63
abbrev depth : Nat := 48
theorem facts {P : Program} {w : World} {K : PySem.W.Frag} {h : Heap} {mg : Str → Option Value} {f : Addr} (X : K.In h) (G : h.Ns mainGlobals mg) (hfa : mg ("law" : Str) = some (.ref f)) (c : He.SaysX fa fn ts [] ex w h K) :
    ∃ fd : FuncData, (∀ (s : Shared) (v : Value), BindsTo s fd ⟨[v], []⟩ [("_law_script", v)]) ∧ (∀ (H : Hp) (a : Addr) (ns : List Int), ns.length ≤ most → SqL (thin K) H a (ns.map V.int) → spD (thin K) 1 (PureR lawF) [.ref a] H (fun v _ => v = .bl true) fun _ _ _ => False) ∧
      ∀ base : Heap, (thin K).In base → base.Ns mainGlobals mg → FnG P w (thin K) mg base CX0 depth f fd ["_law_script"] (spD (thin K) 1 (PureR lawF)) := by
  have cd := c.t.d
  have e := hfa.symm.trans (glo_law X G cd)
  cases e
  obtain ⟨fd, F⟩ := cd.def_ 28 (d := d_law) rfl
  have bA := FunD.bindsA (ps := ["_law_script"]) F fun _ _ _ _ _ _ us hl => match us, hl with | [_], _ => rfl
  refine ⟨fd, fun s v => bA s [v] rfl, fun H a ns _ hS => sp_script hS ⟨ns, rfl, rfl⟩, fun base _ _ => ?_⟩
  have FL := thin_fun (st := s_law) F
  have B := bare_of X G cd
  obtain ⟨_, F_is_variable, B_is_variable⟩ := fun_is_variable cd
  obtain ⟨_, F_parts_of, B_parts_of⟩ := fun_parts_of cd
  obtain ⟨_, F_is_term, B_is_term⟩ := fun_is_term cd
  obtain ⟨_, F_is_name, B_is_name⟩ := fun_is_name cd
  obtain ⟨_, F_is_atom, B_is_atom⟩ := fun_is_atom cd
  obtain ⟨_, F_is_pattern, B_is_pattern⟩ := fun_is_pattern cd
  obtain ⟨_, F_variables_as_they_stand, B_variables_as_they_stand⟩ := fun_variables_as_they_stand cd
  obtain ⟨_, F_is_head, B_is_head⟩ := fun_is_head cd
  obtain ⟨_, F_is_rule, B_is_rule⟩ := fun_is_rule cd
  obtain ⟨_, F_box, B_box⟩ := fun_box cd
  obtain ⟨_, F_take, B_take⟩ := fun_take cd
  obtain ⟨_, F_pick, B_pick⟩ := fun_pick cd
  obtain ⟨_, F_folded, B_folded⟩ := fun_folded cd
  obtain ⟨_, F_same, B_same⟩ := fun_same cd
  obtain ⟨_, F_words, B_words⟩ := fun_words cd
  obtain ⟨_, F_variable, B_variable⟩ := fun_variable cd
  obtain ⟨_, F_term, B_term⟩ := fun_term cd
  obtain ⟨_, F_counts, B_counts⟩ := fun_counts cd
  obtain ⟨_, F_head, B_head⟩ := fun_head cd
  obtain ⟨_, F_rule, B_rule⟩ := fun_rule cd
  obtain ⟨_, F_own_is_name, B_own_is_name⟩ := fun_own_is_name cd
  obtain ⟨_, F_own_is_variable, B_own_is_variable⟩ := fun_own_is_variable cd
  obtain ⟨_, F_own_is_term, B_own_is_term⟩ := fun_own_is_term cd
  obtain ⟨_, F_own_is_atom, B_own_is_atom⟩ := fun_own_is_atom cd
  obtain ⟨_, F_own_is_rule, B_own_is_rule⟩ := fun_own_is_rule cd
  obtain ⟨_, F_odd, B_odd⟩ := fun_odd cd
  obtain ⟨_, F_bent, B_bent⟩ := fun_bent cd
  obtain ⟨_, F_asked_right, B_asked_right⟩ := fun_asked_right cd
  have I_MOST_VARIABLE := int_MOST_VARIABLE X G cd
  have I_MOST_LETTERS := int_MOST_LETTERS X G cd
  have I_MOST_TERMS := int_MOST_TERMS X G cd
  have I_MOST_BODY := int_MOST_BODY X G cd
  have I_LETTERS := str_LETTERS X G cd
  have I_NO_NAME := str_NO_NAME X G cd
  have T_PARTS := tab_PARTS X G c
  have D_take : Df P w (thin K) mg base "_law_take" (1) p_take (BoxE preTake 1 postTake) := ⟨_, _, fn_take F_take B , glo_take X G cd, F_take.kp, B_take⟩
  have D_box : Df P w (thin K) mg base "_law_box" (1) p_box (RBox) := ⟨_, _, fn_box F_box B , glo_box X G cd, F_box.kp, B_box⟩
  have D_pick : Df P w (thin K) mg base "_law_pick" (2) p_pick (BoxE prePick 1 postPick) := ⟨_, _, fn_pick F_pick B D_take, glo_pick X G cd, F_pick.kp, B_pick⟩
  have D_same := fn_same (P := P) (w := w) (base := base) F_same (glo_same X G cd) B_same B 
  have T_PARTS : TabG (thin K) w mg "PARTS" arI := by
    have e : arI = fun k => kv_PARTS.lookup k := funext fun k => (by simp [arI, ar, kv_PARTS, List.lookup_cons]; (repeat' split) <;> simp_all)
    rw [e]
    exact T_PARTS
  have D_is_variable : Df P w (thin K) mg base "is_variable" (1) p_is_variable (PureR isVF) := ⟨_, _, fn_is_variable F_is_variable B I_MOST_VARIABLE, glo_is_variable X G cd, F_is_variable.kp, B_is_variable⟩
  have D_parts_of : Df P w (thin K) mg base "parts_of" (1) p_parts_of (PureR partsF) := ⟨_, _, fn_parts_of F_parts_of B T_PARTS, glo_parts_of X G cd, F_parts_of.kp, B_parts_of⟩
  have D_is_term : Df P w (thin K) mg base "is_term" (2) p_is_term (PureR isTF) := ⟨_, _, fn_is_term F_is_term B D_is_variable D_parts_of, glo_is_term X G cd, F_is_term.kp, B_is_term⟩
  have D_folded : Df P w (thin K) mg base "_law_folded" (1) p_folded (RFold) := ⟨_, _, fn_folded F_folded B , glo_folded X G cd, F_folded.kp, B_folded⟩
  have D_words : Df P w (thin K) mg base "_law_words" (2) p_words (BoxE preWords 9 postWords) := ⟨_, _, fn_words F_words B D_take, glo_words X G cd, F_words.kp, B_words⟩
  have D_variable : Df P w (thin K) mg base "_law_variable" (2) p_variable (BoxE (fun ds => ds = []) 3 postVar) := ⟨_, _, fn_variable F_variable B D_take, glo_variable X G cd, F_variable.kp, B_variable⟩
  have D_term := fn_term (P := P) (w := w) (base := base) F_term (glo_term X G cd) B_term B D_take D_variable
  have D_is_name : Df P w (thin K) mg base "is_name" (1) p_is_name (PureR isNF) := ⟨_, _, fn_is_name F_is_name B I_LETTERS I_MOST_LETTERS I_NO_NAME, glo_is_name X G cd, F_is_name.kp, B_is_name⟩
  have D_is_atom : Df P w (thin K) mg base "is_atom" (3) p_is_atom (PureR isAF) := ⟨_, _, fn_is_atom F_is_atom B D_is_name D_is_term I_MOST_TERMS, glo_is_atom X G cd, F_is_atom.kp, B_is_atom⟩
  have D_is_pattern : Df P w (thin K) mg base "is_pattern" (1) p_is_pattern (PureR patF) := ⟨_, _, fn_is_pattern F_is_pattern B , glo_is_pattern X G cd, F_is_pattern.kp, B_is_pattern⟩
  have D_variables_as_they_stand : Df P w (thin K) mg base "variables_as_they_stand" (1) p_variables_as_they_stand (PureR metF) := ⟨_, _, fn_variables_as_they_stand F_variables_as_they_stand B , glo_variables_as_they_stand X G cd, F_variables_as_they_stand.kp, B_variables_as_they_stand⟩
  have D_is_head : Df P w (thin K) mg base "is_head" (4) p_is_head (PureR isHF) := ⟨_, _, fn_is_head F_is_head B D_variables_as_they_stand D_is_atom D_is_pattern, glo_is_head X G cd, F_is_head.kp, B_is_head⟩
  have D_is_rule : Df P w (thin K) mg base "is_rule" (5) p_is_rule (PureR isRF) := ⟨_, _, fn_is_rule F_is_rule B D_variables_as_they_stand D_is_head D_is_atom I_MOST_BODY, glo_is_rule X G cd, F_is_rule.kp, B_is_rule⟩
  have D_own_is_name : Df P w (thin K) mg base "_law_is_name" (1) p_own_is_name (PureR isNF) := ⟨_, _, fn_own_is_name F_own_is_name B , glo_own_is_name X G cd, F_own_is_name.kp, B_own_is_name⟩
  have D_own_is_variable : Df P w (thin K) mg base "_law_is_variable" (1) p_own_is_variable (PureR isVF) := ⟨_, _, fn_own_is_variable F_own_is_variable B , glo_own_is_variable X G cd, F_own_is_variable.kp, B_own_is_variable⟩
  have D_own_is_term := fn_own_is_term (P := P) (w := w) (base := base) F_own_is_term (glo_own_is_term X G cd) B_own_is_term B D_own_is_variable
  have D_own_is_atom : Df P w (thin K) mg base "_law_is_atom" (44) p_own_is_atom (PureR isAF) := ⟨_, _, fn_own_is_atom F_own_is_atom B D_own_is_name D_own_is_term, glo_own_is_atom X G cd, F_own_is_atom.kp, B_own_is_atom⟩
  have D_own_is_rule : Df P w (thin K) mg base "_law_is_rule" (46) p_own_is_rule (PureR isRF) := ⟨_, _, fn_own_is_rule F_own_is_rule B D_own_is_atom, glo_own_is_rule X G cd, F_own_is_rule.kp, B_own_is_rule⟩
  have D_counts : Df P w (thin K) mg base "_law_counts" (2) p_counts (BoxE preCounts 26 postCounts) := ⟨_, _, fn_counts F_counts B D_take, glo_counts X G cd, F_counts.kp, B_counts⟩
  have D_head : Df P w (thin K) mg base "_law_head" (2) p_head (BoxE preHead 3 postHead) := ⟨_, _, fn_head F_head B D_take, glo_head X G cd, F_head.kp, B_head⟩
  have D_rule : Df P w (thin K) mg base "_law_rule" (3) p_rule (BoxE preRule9 20 postRule9) := ⟨_, _, fn_rule F_rule B D_pick D_head D_take, glo_rule X G cd, F_rule.kp, B_rule⟩
  have D_odd : Df P w (thin K) mg base "_law_odd" (3) p_odd (BoxE (fun ds => ds = []) 1 (fun _ d => d ∈ oddN)) := ⟨_, _, fn_odd F_odd B D_pick, glo_odd X G cd, F_odd.kp, B_odd⟩
  have D_bent := fn_bent (P := P) (w := w) (base := base) F_bent (glo_bent X G cd) B_bent B D_odd D_take
  have D_asked_right : Df P w (thin K) mg base "_law_asked_right" (47) p_asked_right (PureR askF) := ⟨_, _, fn_asked_right F_asked_right B D_is_name D_is_atom D_is_rule D_same D_own_is_name D_own_is_atom D_own_is_rule, glo_asked_right X G cd, F_asked_right.kp, B_asked_right⟩
  exact fn_law FL B D_folded D_box D_counts D_words D_pick D_rule D_asked_right D_term D_take D_bent D_odd

end K09
open PySem PySem.W PySem.Calls PyProof.Rows
set_option maxHeartbeats 0 in
theorem PySem.Challenge.cw_ringproofs_k09_what_names_atoms_and_rule_holds : PySem.Challenge.rw_ringproofs_k09_what_names_atoms_and_rule.Holds := by
  w_on; o_law
  refine HandSHeadRun.head_any (r := OpenLaw.row PySem.Challenge.rw_ringproofs_k09_what_names_atoms_and_rule) (q := view (OpenLaw.row PySem.Challenge.rw_ringproofs_k09_what_names_atoms_and_rule).prog [38]) (H := K09.hk) (ob := K09.ob) (M := 4000) (loose := (("MOST_VARIABLE" :: "PARTS" :: "is_variable" :: "parts_of" :: "is_term" :: "LETTERS" :: "MOST_LETTERS" :: "NO_NAME" :: "MOST_TERMS" :: "MOST_BODY" :: "is_name" :: "is_atom" :: "is_pattern" :: "variables_as_they_stand" :: "is_head" :: "is_rule" :: "_law_box" :: "_law_take" :: "_law_pick" :: "_law_folded" :: "_law_same" :: "_law_words" :: "_law_variable" :: "_law_term" :: "_law_counts" :: "_law_head" :: "_law_rule" :: "_law_is_name" :: "_law_is_variable" :: "_law_is_term" :: "_law_is_atom" :: "_law_is_rule" :: "_law_odd" :: "_law_bent" :: "_law_asked_right" :: [] : List PySem.Str))) (d := HandSHeadRun.topDef (OpenLaw.row PySem.Challenge.rw_ringproofs_k09_what_names_atoms_and_rule).prog 38) (kwd := []) K09.ob_eq
    (by kernel_rfl) (fun s => by kernel_rfl) K09.run (by kernel_rfl) (by kernel_rfl) (by kernel_rfl) (by rfl) (by first | assumption | decide +kernel) (by decide +kernel) ⟨rfl, rfl, rfl, rfl, rfl, by decide +kernel⟩ ?hw ?hc
  case hw => w_witness2
  case hc =>
    refine Dl.walk_ofG (l := PySem.Challenge.rw_ringproofs_k09_what_names_atoms_and_rule) (n := K09.most) (k := K09.depth) (x := "_law_script") rfl (by decide) (by kernel_rfl) ⟨⟨rfl, by decide, by decide⟩, rfl⟩ ?F
    intro w mg fa h Y G hmg0
    obtain ⟨K, KX, c⟩ := Y
    have hmg : mg ("law" : PySem.Str) = some (.ref fa) := by
      have e : (HandSHeadRun.topDef (OpenLaw.row PySem.Challenge.rw_ringproofs_k09_what_names_atoms_and_rule).prog 38).name = ("law" : PySem.Str) := by kernel_rfl
      rw [← e]
      exact hmg0
    obtain ⟨fd, hb, hsp, hF⟩ := K09.facts (P := (PySem.Challenge.rw_ringproofs_k09_what_names_atoms_and_rule).prog) (w := w) KX G hmg c
    exact ⟨K, fd, _, KX, hb, hsp, hF⟩
