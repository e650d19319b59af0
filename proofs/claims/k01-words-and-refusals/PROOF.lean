import PyProof.Rows.All
import Wide.All
import OpenK.AllK
import Wide.FinOn
import HandS.ForMost
import HandS.TupAny
import KE.KeyNested
import HandS.Exc
import HandS.ExcInit
import HandS.ExcCtx
import HandS.Walk
import HandS.HeadEnd
import HandS.IsInst
import HandS.Zip
import KE.KRevSl
import HandS.SetBool
import HandS.SetFor
import HandS.Strs
import HandS.Comp
import HandS.Defaults
import HandS.HeadHook2
import KE.KUnpackStar
import HandS.More
import HandS.HeadHook3
import HandS.Style
import HandS.HeadHook4
import KE.KDictPairs
import HandS.TupMul
import HandS.Conv
import HandS.SortOrd
import HandS.SortRule
import HandS.TupLe
import HandS.Sort
import PyProof.Rows.SortKeyStr
import HandS.DictTup
import KE.KDictSum
import HandS.NoneIn
import PyProof.MaxThree
import KE.SortKeyHeap
import HandS.SortKw
import HandS.FStr
import KE.DataFind
import KE.KAssignIn
import HandS.Text
import HandS.ListEq
import HandS.SetKeys
import HandS.HotCalls
import HandS.Hot
import KE.KExcIs
import HandS.ExcField
import PyProof.StrOps2
import HandS.Head0
import HandS.Head1
import HandS.Head2
import PySem.Challenge.RW_ringproofs_k01_words_and_refusals
set_option Elab.async false
set_option linter.all false
set_option maxRecDepth 100000
set_option maxHeartbeats 0
namespace Dl
open PySem PySem.Spec L2
open PyProof.Rows hiding St
def seqL : Obj → Bool
  | ⟨.type c, _, .seq _ _, _⟩ => decide (c = "list")
  | _ => false
def thinB (K : PySem.W.Frag) (a : Addr) : Bool := match K.lookup a with
  | some o => !seqL o
  | none => true
def thin (K : PySem.W.Frag) : PySem.W.Frag := K.filter fun p => thinB K p.1
def xcB (K : PySem.W.Frag) (C : Addr) : Bool := (PySem.W.clsIn K C).isSome && (decide (PySem.W.findIn K (.ref C) "__getattribute__" = some (some (.builtin "BaseException.__getattribute__"))) && (decide (PySem.W.findIn K (.ref C) "__getattr__" = some none) && (decide (PySem.W.subIn K (.ref C) (.type "BaseException") = some true) &&
  (decide (PySem.W.findIn K (.ref C) "__class__" = some (some (.builtin "object.__class__"))) && (decide (PySem.W.specialIn K (.builtin "object.__class__") "__get__" = some (some (.builtin "getset_descriptor.__get__"))) && (decide (PySem.W.takesIn K (.builtin "object.__class__") = some true) && (decide (PySem.W.mroIn K C (.type "object") = some true) && (PySem.W.hasDictIn K C && decide (PySem.W.findIn K (.ref C) "what" = some none)))))))))
def clsB (K : PySem.W.Frag) (C R : Addr) : Bool := match K.lookup C with
  | some ⟨.type "type", _, .cls cd, sl⟩ => (match sl.toList with
    | [_, _, _, _, some (.builtin n), _] => n == "ValueError.__new__" && (!cd.hasDel && (cd.hasDict && decide (cd.mro = .ref C :: .ref R :: PySem.HandSPX.veTail)))
    | _ => false)
  | _ => false
def excB (K : PySem.W.Frag) (R fI C : Addr) : Bool := clsB K C R && (xcB K C && (decide (PySem.W.findIn K (.ref C) "__init__" = some (some (.ref fI))) && (decide (PySem.W.findIn K (.ref C) "__setattr__" = some (some (.builtin "object.__setattr__"))) &&
  (decide (PySem.W.typeIn K (.ref C) = some (.type "type")) && PySem.W.keepIn K (.ref C)))))
def ndB : List Addr → Bool
  | [] => true
  | a :: l => !(l.contains a) && ndB l
def exfB (K : PySem.W.Frag) (R fI : Addr) (cl : List Addr) : Bool := (cl.all (excB K R fI)) && (ndB (R :: cl) && ((PySem.W.clsIn K R).isSome && (decide (PySem.W.typeIn K (.ref R) = some (.type "type")) && (decide (PySem.W.typeIn K (.ref fI) = some (.type "function")) && (decide (PySem.W.subIn K (.ref R) (.type "BaseException") = some true))))))
end Dl
namespace K01
open PySem PySem.Spec L2 Dl
open PyProof.Rows hiding St
def topS (i : Nat) : Stmt := PySem.Challenge.pw_ringproofs_k01_words_and_refusals.main.body.getD i (.Pass ⟨0, 0, 0, 0⟩)
abbrev s_RingError_init : Stmt := inClass (topS 1) 0
abbrev s_box : Stmt := topS 20
abbrev s_take : Stmt := topS 21
abbrev s_pick : Stmt := topS 22
abbrev s_same : Stmt := topS 23
abbrev s_made : Stmt := topS 24
abbrev s_made_more : Stmt := topS 25
abbrev s_kinds : Stmt := topS 26
abbrev s_thing : Stmt := topS 27
abbrev s_law : Stmt := topS 28
def d_RI : He.DefD := ⟨("RingError", some "__init__"), "__init__", "RingError.__init__", defArgs s_RingError_init, defBody s_RingError_init, defScope s_RingError_init, [], []⟩
abbrev aR (K : PySem.W.Frag) : Addr := He.ga K "RingError"
abbrev fR (K : PySem.W.Frag) : Addr := He.ma K (He.ga K "RingError") "__init__"
abbrev clX (K : PySem.W.Frag) : List Addr := [He.ga K "BadText", He.ga K "BadRow", He.ga K "Clash", He.ga K "NoRule", He.ga K "BadStep", He.ga K "BadChart", He.ga K "Leans", He.ga K "NotLetBy", He.ga K "NoWorld", He.ga K "TooLong", He.ga K "Known", He.ga K "Unknown", He.ga K "TooMany", He.ga K "Leant", He.ga K "BadDeed"]
def d_box : He.DefD := ⟨("_law_box", none), "_law_box", "_law_box", defArgs s_box, defBody s_box, defScope s_box, [], []⟩
def d_take : He.DefD := ⟨("_law_take", none), "_law_take", "_law_take", defArgs s_take, defBody s_take, defScope s_take, [], []⟩
def d_pick : He.DefD := ⟨("_law_pick", none), "_law_pick", "_law_pick", defArgs s_pick, defBody s_pick, defScope s_pick, [], []⟩
def d_same : He.DefD := ⟨("_law_same", none), "_law_same", "_law_same", defArgs s_same, defBody s_same, defScope s_same, [], []⟩
def d_made : He.DefD := ⟨("_law_made", none), "_law_made", "_law_made", defArgs s_made, defBody s_made, defScope s_made, [], []⟩
def d_made_more : He.DefD := ⟨("_law_made_more", none), "_law_made_more", "_law_made_more", defArgs s_made_more, defBody s_made_more, defScope s_made_more, [], []⟩
def d_kinds : He.DefD := ⟨("_law_kinds", none), "_law_kinds", "_law_kinds", defArgs s_kinds, defBody s_kinds, defScope s_kinds, [], []⟩
def d_thing : He.DefD := ⟨("_law_thing", none), "_law_thing", "_law_thing", defArgs s_thing, defBody s_thing, defScope s_thing, [], []⟩
def d_law : He.DefD := ⟨("law", none), "law", "law", defArgs s_law, defBody s_law, defScope s_law, [], []⟩
def fn : List He.DefD := [d_box, d_take, d_pick, d_same, d_made, d_made_more, d_kinds, d_thing, d_law, d_RI]
def fa : List He.Fa := [.glo "_law_box", .glo "_law_take", .glo "_law_pick", .glo "_law_same", .glo "_law_made", .glo "_law_made_more", .glo "_law_kinds", .glo "_law_thing", .glo "law", .free "len", .free "abs", .free "int", .free "isinstance", .free "list", .free "tuple", .free "str", .free "bool", .free "all", .free "any", .free "zip", .free "range", .free "min", .free "max", .free "sorted", .free "set", .free "dict", .free "repr", .free "enumerate", .free "sum", .free "reversed", .free "type", .free "ord", .free "chr", .int "SIZE" 3, .int "SHELF" 8, .glo "RingError", .glo "BadText", .glo "BadRow", .glo "Clash", .glo "NoRule", .glo "BadStep", .glo "BadChart", .glo "Leans", .glo "NotLetBy", .glo "NoWorld", .glo "TooLong", .glo "Known", .glo "Unknown", .glo "TooMany", .glo "Leant", .glo "BadDeed", .free "IndexError", .free "KeyError", .free "TypeError", .free "ValueError"]
def exl (K : PySem.W.Frag) : List Bool := []
def ts : List He.Tab := []
def ex (K : PySem.W.Frag) : Bool := exfB (thin K) (aR K) (fR K) (clX K)
abbrev R : PySem.W.OpenRow := PySem.W.OpenLaw.row PySem.Challenge.rw_ringproofs_k01_words_and_refusals
abbrev hk : PySem.W.Hook := He.hookX 5 fa fn ts [] ex
def ob (s : PySem.W.SharedT) : He.AlX := He.obsX 5 fa fn ts [] ex (HandSHeadRun.getT s)
theorem ob_eq (s : PySem.W.SharedT) : ob s = hk.obs s.abs := He.obsX_eq (HandSHeadRun.getT_eq s)
theorem run (w : World) : HandSHeadRun.RunEq R (PySem.W.view R.prog [28]) hk ob 4000 ("RingError" :: "BadText" :: "BadRow" :: "Clash" :: "NoRule" :: "BadStep" :: "BadChart" :: "Leans" :: "NotLetBy" :: "NoWorld" :: "TooLong" :: "Known" :: "Unknown" :: "TooMany" :: "Leant" :: "BadDeed" :: "SIZE" :: "SHELF" :: "_law_box" :: "_law_take" :: "_law_pick" :: "_law_same" :: "_law_made" :: "_law_made_more" :: "_law_kinds" :: "_law_thing" :: [] : List Str) w := by
  intro os
  kernel_rfl
end K01
/-! Dl: a layer over HandS in which a def is walked over plain data (PyData) and a store of mutable objects, with no heap in sight. -/
namespace Dl
open PySem PySem.Spec L2
open PyProof.Rows hiding St

/-! ### best readings -/
section
variable {X : Cx} {e a b : Expr} {σ : St} {H : Hp}
def tE (X : Cx) (e : Expr) : TE := fun σ H Q => ∀ (pins : List (Addr × Obj)) (s : Shared), Inv X pins σ H s → wpAny (model X.prog X.w) X.A (eval e X.env) (EP X pins σ Q) X.xe s
theorem peB : PE X e (tE X e) := ⟨fun pins s _ _ _ I h => h pins s I⟩
theorem tE_of {t : TE} {Q : VK} (p : PE X e t) (h : t σ H Q) : tE X e σ H Q := fun pins s I => p.run pins s σ H Q I h
theorem tE_mono {Q Q' : VK} (h : tE X e σ H Q) (q : ∀ v H', Q v H' → Q' v H') : tE X e σ H Q' := fun pins s I =>
  thn (h pins s I) fun _ _ ⟨v, H', I', r, z⟩ => ⟨v, H', I', r, q v H' z⟩
def tT (X : Cx) (e : Expr) : TT := fun σ H Q => ∀ (pins : List (Addr × Obj)) (s : Shared), Inv X pins σ H s → wpAny (model X.prog X.w) X.A (isTrue e X.env (eval e X.env)) (TP X pins σ Q) X.xe s
theorem ptB : PT X e (tT X e) := ⟨fun pins s _ _ _ I h => h pins s I⟩
theorem tT_of {t : TT} {Q : Bool → Hp → Prop} (p : PT X e t) (h : t σ H Q) : tT X e σ H Q := fun pins s I => p.run pins s σ H Q I h
theorem tT_mono {Q Q' : Bool → Hp → Prop} (h : tT X e σ H Q) (q : ∀ v H', Q v H' → Q' v H') : tT X e σ H Q' := fun pins s I =>
  thn (h pins s I) fun _ _ ⟨H', I', z⟩ => ⟨H', I', q _ H' z⟩
def tWh (X : Cx) (e : Expr) : TT := fun σ H Q => ∀ (whole : Sem Value) (pins : List (Addr × Obj)) (s : Shared), Inv X pins σ H s → wpAny (model X.prog X.w) X.A (isTrue e X.env whole) (TP X pins σ Q) X.xe s
theorem pwB : PW X e (tWh X e) := ⟨fun wh pins s _ _ _ I h => h wh pins s I⟩
theorem tWh_of {t : TT} {Q : Bool → Hp → Prop} (p : PW X e t) (h : t σ H Q) : tWh X e σ H Q := fun wh pins s I => p.run wh pins s σ H Q I h
def tA (X : Cx) (es : List Expr) : TA := fun σ H Q => ∀ (pos : Pos) (pins : List (Addr × Obj)) (s : Shared), Inv X pins σ H s → wpAny (model X.prog X.w) X.A (spliced (backTo pos (starEach es X.env))) (AP X pins σ Q) X.xe s
theorem paB {es : List Expr} : PA X es (tA X es) := ⟨fun pos pins s _ _ _ I h => h pos pins s I⟩
theorem tA_of {es : List Expr} {t : TA} {Q : List V → Hp → Prop} (p : PA X es t) (h : t σ H Q) : tA X es σ H Q := fun pos pins s I => p.run pos pins s σ H Q I h
theorem tA_mono {es : List Expr} {Q Q' : List V → Hp → Prop} (h : tA X es σ H Q) (q : ∀ v H', Q v H' → Q' v H') : tA X es σ H Q' := fun pos pins s I =>
  thn (h pos pins s I) fun _ _ ⟨v, H', I', r, z⟩ => ⟨v, H', I', r, q v H' z⟩
def tS (X : Cx) (st : Stmt) : TS := fun D σ H => ∀ (pins : List (Addr × Obj)) (s : Shared), Inv X pins σ H s → wpAny (model X.prog X.w) X.A (exec st X.env) (SP X pins D) X.xe s
theorem psB {st : Stmt} : PS X st (tS X st) := ⟨fun pins s _ _ _ I h => h pins s I⟩
theorem tS_of {st : Stmt} {t : TS} {D : Ends} (p : PS X st t) (h : t D σ H) : tS X st D σ H := fun pins s I => p.run pins s σ H D I h
def tSs (X : Cx) (st : List Stmt) : TS := fun D σ H => ∀ (pins : List (Addr × Obj)) (s : Shared), Inv X pins σ H s → wpAny (model X.prog X.w) X.A (execs st X.env) (SP X pins D) X.xe s
theorem pssB {st : List Stmt} : PSs X st (tSs X st) := ⟨fun pins s _ _ _ I h => h pins s I⟩
theorem tSs_of {st : List Stmt} {t : TS} {D : Ends} (p : PSs X st t) (h : t D σ H) : tSs X st D σ H := fun pins s I => p.run pins s σ H D I h
/-- operations by values -/
def rB (X : Cx) (f : Value → Value → Sem Value) : R2 := fun x y H Q => ∀ (pins : List (Addr × Obj)) (s : Shared) (σ : St) (v u : Value), Inv X pins σ H s → RelV x v → RelV y u → wpAny (model X.prog X.w) X.A (f v u) (EP X pins σ Q) X.xe s
theorem rB_op {f : Value → Value → Sem Value} : OpR X f (rB X f) := fun pins s σ _ _ _ v u _ I rx ry h => h pins s σ v u I rx ry
theorem rB_of {f : Value → Value → Sem Value} {r : R2} {x y : V} {Q : VK} (o : OpR X f r) (h : r x y H Q) : rB X f x y H Q := fun pins s σ v u I rx ry => o pins s σ H x y v u Q I rx ry h
def uB (X : Cx) (f : Value → Sem Value) : V → Hp → VK → Prop := fun x H Q => ∀ (pins : List (Addr × Obj)) (s : Shared) (σ : St) (v : Value), Inv X pins σ H s → RelV x v → wpAny (model X.prog X.w) X.A (f v) (EP X pins σ Q) X.xe s
theorem uB_op {f : Value → Sem Value} : UnR X f (uB X f) := fun pins s σ _ _ v _ I rx h => h pins s σ v I rx
theorem uB_of {f : Value → Sem Value} {r : V → Hp → VK → Prop} {x : V} {Q : VK} (o : UnR X f r) (h : r x H Q) : uB X f x H Q := fun pins s σ v I rx => o pins s σ H x v Q I rx h
def cB (X : Cx) (f : Value) : List V → Hp → VK → Prop := fun xs H Q => ∀ (pins : List (Addr × Obj)) (s : Shared) (σ : St) (us : List Value), Inv X pins σ H s → Vals xs us → wpAny (model X.prog X.w) X.A (call f us) (EP X pins σ Q) X.xe s
theorem cB_op {f : Value} : CallR X f (cB X f) := fun pins s σ _ _ us _ I rx h => h pins s σ us I rx
theorem cB_of {f : Value} {r : List V → Hp → VK → Prop} {xs : List V} {Q : VK} (o : CallR X f r) (h : r xs H Q) : cB X f xs H Q := fun pins s σ us I rx => o pins s σ H xs us Q I rx h
def mB (X : Cx) (id : String) : V → List V → Hp → VK → Prop := fun x xs H Q => ∀ (pins : List (Addr × Obj)) (s : Shared) (σ : St) (v : Value) (us : List Value), Inv X pins σ H s → RelV x v → Vals xs us → wpAny (model X.prog X.w) X.A (call (.builtin id) (v :: us)) (EP X pins σ Q) X.xe s
theorem mB_op {id : String} : MtR X id (mB X id) := fun pins s σ _ _ _ v us _ I rx rs h => h pins s σ v us I rx rs
theorem mB_of {id : String} {r : V → List V → Hp → VK → Prop} {x : V} {xs : List V} {Q : VK} (o : MtR X id r) (h : r x xs H Q) : mB X id x xs H Q := fun pins s σ v us I rx rs => o pins s σ H x xs v us Q I rx rs h
end

/-! ### tuples known to have no dict -/
section
variable {X : Cx} {es : List Expr} {t : TA} {pos : Pos}
def PlT (K : PySem.W.Frag) (H : Hp) (a : Addr) (xs : List V) : Prop := (∃ o, H a = some (.frz o (.tup xs)) ∧ o.dict = none) ∨
  ∃ (o : Obj) (its : Array Value) (n : Nat), K.lookup a = some o ∧ o.cls = .type "tuple" ∧ o.dict = none ∧ o.data = .seq its n ∧ its.size ≤ sizeLine ∧ Vals xs its.toList
theorem PlT.sq {K : PySem.W.Frag} {H : Hp} {a : Addr} {xs : List V} (h : PlT K H a xs) : SqT K H a xs := by
  rcases h with ⟨o, h, _⟩ | ⟨o, its, n, h1, h2, _, h3⟩
  · exact .inl (.inr ⟨o, h⟩)
  · exact .inr ⟨o, its, n, h1, h2, h3⟩
theorem laidP {pins : List (Addr × Obj)} {σ : St} {H : Hp} {s : Shared} {xs : List V} {us : List Value} (I : Inv X pins σ H s) (r : Vals xs us) (z : xs.length ≤ sizeLine) :
    Inv X pins σ (upd H s.heap.objs.size (.frz { cls := .type "tuple", data := .seq us.toArray } (.tup xs))) { s with heap := s.heap.push { cls := .type "tuple", data := .seq us.toArray } } :=
  I.laid (t' := s.toks) (fun b u e => Heap.get?_push_of_some _ e) (Nat.le_refl _) ⟨Heap.get?_push_size _ rfl, z, us, r, ⟨_, Heap.get?_push_size _ rfl, rfl, _, rfl⟩⟩
def tTupP (t : TA) : TE := fun σ H Q => t σ H fun xs H1 => xs.length ≤ sizeLine ∧ ∀ p o, H1 p = none → o.dict = none → Q (.ref p) (upd H1 p (.frz o (.tup xs)))
theorem pe_tupP {x1} (h : PA X es t) : PE X (.Tuple es x1 pos) (tTupP t) := by
  refine ⟨fun pins s σ H Q I hq => ?_⟩
  refine wpAny_Tuple_spliced (thn (h.run pos pins s σ H _ I hq) fun us s1 ⟨xs, H1, I1, r, z, q⟩ => ⟨by rw [← r.length]; exact z, ?_⟩)
  exact ⟨.ref s1.heap.objs.size, _, laidP I1 r z, rfl, q _ _ (I1.hok.fresh (Nat.le_refl _)) rfl⟩
theorem call_tupleP : CallR X (.type "tuple") (fun xs H Q => ∃ p ys, xs = [.ref p] ∧ ((SqL X.K H p ys ∧ ∀ l o, H l = none → o.dict = none → Q (.ref l) (upd H l (.frz o (.tup ys)))) ∨ (SqT X.K H p ys ∧ Q (.ref p) H))) := by
  intro pins s σ H xs us Q I r h
  obtain ⟨p, ys, rfl, h⟩ := h
  obtain ⟨u, rfl, rx⟩ := vals1 r
  cases rx
  rcases h with ⟨hq, q⟩ | ⟨hq, q⟩
  · obtain ⟨its, r', pl, hz⟩ := I.list hq
    have hlen := r'.length
    refine call_tuple_list pl.isList (fun h' kp => ?_) (by simp only [List.size_toArray] <;> omega)
    have I1 : Inv X pins σ H { s with heap := h' } := I.kept (t' := s.toks) kp
    exact ⟨.ref h'.objs.size, _, laidP I1 r' hz, rfl, q _ _ (I1.hok.fresh (Nat.le_refl _)) rfl⟩
  · obtain ⟨its, r', pl, hz⟩ := I.tuple hq
    exact call_tuple_same pl ⟨.ref p, H, I, rfl, q⟩
def rSlP (K : PySem.W.Frag) : V → Option Int → Option Int → Hp → VK → Prop := fun x lo hi H Q => ∃ a xs, x = .ref a ∧ SqT K H a xs ∧
  (HT.sIx xs.length 0 lo = 0 ∧ HT.sIx xs.length xs.length hi = xs.length → Q (.ref a) H) ∧ (¬ (HT.sIx xs.length 0 lo = 0 ∧ HT.sIx xs.length xs.length hi = xs.length) → ∀ p o, H p = none → o.dict = none → Q (.ref p) (upd H p (.frz o (.tup (cutV xs lo hi)))))
theorem sl_tupP : SlR X (rSlP X.K) := by
  intro pins s σ H x v vl vu lo hi sl Q I rx hs pl pu h
  obtain ⟨a, xs, rfl, hx, q1, q2⟩ := h
  cases rx
  obtain ⟨its, r, ht, hz⟩ := I.tuple hx
  have hlen : its.toArray.size = xs.length := by rw [List.size_toArray]; exact r.length.symm
  refine ⟨"tuple", _, PyProof.Rows.slot_tuple_getitem.lookup, ht.typeIs, ?_⟩
  by_cases hw : HT.sIx xs.length 0 lo = 0 ∧ HT.sIx xs.length xs.length hi = xs.length
  · exact getItem_tuple_whole ht hs pl pu (by rw [hlen]; exact hw) ⟨.ref a, H, I, rfl, q1 hw⟩
  · refine HT.getItem_tuple_cut ht hs pl pu (by rw [hlen]; exact hw) ?_ (by rw [hlen]; exact hz)
    rw [hlen]
    exact ⟨.ref s.heap.objs.size, _, laidP I ((r.drop (HT.sIx xs.length 0 lo)).take (HT.sIx xs.length xs.length hi - HT.sIx xs.length 0 lo)) (Nat.le_trans (cutV_length xs lo hi) hz), rfl, q2 hw _ _ (I.hok.fresh (Nat.le_refl _)) rfl⟩
def rCatP (K : PySem.W.Frag) : R2 := fun x y H Q => ∃ a b xs ys, x = .ref a ∧ y = .ref b ∧ SqT K H a xs ∧ SqT K H b ys ∧ xs.length + ys.length ≤ sizeLine ∧
  (xs = [] → Q (.ref b) H) ∧ (xs ≠ [] → ys = [] → Q (.ref a) H) ∧ (xs ≠ [] → ys ≠ [] → ∀ p o, H p = none → o.dict = none → Q (.ref p) (upd H p (.frz o (.tup (xs ++ ys)))))
theorem op_catP : OpR X (binaryOp .Add) (rCatP X.K) := by
  intro pins s σ H x y v u Q I rx ry h
  obtain ⟨a, b, xs, ys, rfl, rfl, ha, hb, hz, q0, q1, q2⟩ := h
  cases rx
  cases ry
  obtain ⟨its, r1, p1, _⟩ := I.tuple ha
  obtain ⟨its2, r2, p2, _⟩ := I.tuple hb
  by_cases hx : xs = []
  · subst hx
    cases r1
    exact cat_tup0 p1 p2 ⟨.ref b, H, I, rfl, q0 rfl⟩
  · refine HT.cat_tup p1 p2 (fun z => hx (r1.nil_iff.mp z)) (fun z => ⟨.ref a, H, I, rfl, q1 hx (r2.nil_iff.mp z)⟩) (fun z => ?_) (by rw [← r1.length, ← r2.length]; exact hz)
    exact ⟨.ref s.heap.objs.size, _, laidP I (r1.append r2) (by rw [List.length_append]; exact hz), rfl, q2 hx (fun w => z (r2.nil_iff.mpr w)) _ _ (I.hok.fresh (Nat.le_refl _)) rfl⟩
end
/-! ### data and objects -/
/-- a slot, a value: nothing known; data that stays; the i-th object of the store -/
inductive Sl where
  | no
  | sh (d : PyData)
  | ob (i : Nat)
  | tp (ds : List PyData)
  | ex (C : Addr) (dat : PyData)
/-- an object of the store -/
inductive OO where
  | gone
  | lst (xs : List Sl)
  | dk (ks : List Key) (xs : List Sl)
  | dt (hf : NestedKey → Int) (ks : List NestedKey) (xs : List Sl)
  | ins (C : Addr) (ns : List Str) (xs : List Sl)
structure Z where
  sl : List Sl
  ob : List OO
/-- a world: the objects' addresses, what stays, the heap -/
structure Wd where
  rho : List Addr
  S : Hp
  H : Hp
structure Wd.Le (w w' : Wd) : Prop where
  st : Same w.S w'.S
  rho : ∀ (i : Nat) (p : Addr), w.rho[i]? = some p → w'.rho[i]? = some p
theorem Wd.Le.refl (w : Wd) : w.Le w := ⟨Same.refl _, fun _ _ h => h⟩
theorem Wd.Le.trans {w w1 w2 : Wd} (a : w.Le w1) (b : w1.Le w2) : w.Le w2 := ⟨a.st.trans b.st, fun i p h => b.rho i p (a.rho i p h)⟩

theorem Same.tup {K : PySem.W.Frag} {H H' : Hp} {a : Addr} {xs : List V} (e : Same H H') (h : SqT K H a xs) : SqT K H' a xs := by
  rcases h with (h | ⟨o, h⟩) | h
  · exact .inl (.inl (e _ _ h))
  · exact .inl (.inr ⟨o, e _ _ h⟩)
  · exact .inr h
theorem Same.pl {K : PySem.W.Frag} {H H' : Hp} {a : Addr} {xs : List V} (e : Same H H') (h : PlT K H a xs) : PlT K H' a xs := by
  rcases h with ⟨o, h, hd⟩ | h
  · exact .inl ⟨o, e _ _ h, hd⟩
  · exact .inr h
theorem Same.rd {H H' : Hp} {a : Addr} {u : HO} (e : Same H H') (h : Rd H a u) : Rd H' a u := by
  rcases h with h | ⟨o, h⟩
  · exact .inl (e _ _ h)
  · exact .inr ⟨o, e _ _ h⟩
def kD : Key → PyData
  | .inl i => .int i
  | .inr x => .str x
mutual
/-- a value that bears data -/
inductive Dq (K : PySem.W.Frag) (H : Hp) : V → PyData → Prop
  | non : Dq K H .non .none
  | bl (b : Bool) : Dq K H (.bl b) (.bool b)
  | int (i : Int) : Dq K H (.int i) (.int i)
  | str (x : Str) : Dq K H (.str x) (.str x)
  | lst {a : Addr} {xs : List V} {ds : List PyData} : Rd H a (.lst xs) → DqAll K H xs ds → Dq K H (.ref a) (.list ds)
  | tup {a : Addr} {xs : List V} {ds : List PyData} : PlT K H a xs → DqAll K H xs ds → Dq K H (.ref a) (.tuple ds)
  | dic {a : Addr} {kvs : List (Key × V)} {es : List (Key × PyData)} : H a = some (.dK kvs) → kvs.map (·.1) = es.map (·.1) → DqAll K H (kvs.map (·.2)) (es.map (·.2)) → Dq K H (.ref a) (.dict (es.map fun q => (kD q.1, q.2)))
inductive DqAll (K : PySem.W.Frag) (H : Hp) : List V → List PyData → Prop
  | nil : DqAll K H [] []
  | cons {v : V} {vs : List V} {d : PyData} {ds : List PyData} : Dq K H v d → DqAll K H vs ds → DqAll K H (v :: vs) (d :: ds)
end
mutual
theorem Dq.dp {K : PySem.W.Frag} {H : Hp} : ∀ {v : V} {d : PyData}, Dq K H v d → d.hasDict = false → L2.Dp K H v d
  | _, _, .non, _ => .non
  | _, _, .bl b, _ => .bl b
  | _, _, .int i, _ => .int i
  | _, _, .str x, _ => .str x
  | _, _, .lst h hs, n => .lst (.inl h) (DqAll.dp hs (by simpa only [PyData.hasDict] using n))
  | _, _, .tup h hs, n => .tup h.sq (DqAll.dp hs (by simpa only [PyData.hasDict] using n))
  | _, _, .dic _ _ _, n => by simp only [PyData.hasDict] at n; cases n
theorem DqAll.dp {K : PySem.W.Frag} {H : Hp} : ∀ {vs : List V} {ds : List PyData}, DqAll K H vs ds → PyData.hasDictAll ds = false → L2.DpAll K H vs ds
  | _, _, .nil, _ => .nil
  | _, _, .cons h hs, n => by
    simp only [PyData.hasDictAll, Bool.or_eq_false_iff] at n
    exact .cons (Dq.dp h n.1) (DqAll.dp hs n.2)
end
mutual
theorem Dp_mono {K : PySem.W.Frag} {H H' : Hp} (e : Same H H') : ∀ {v : V} {d : PyData}, Dq K H v d → Dq K H' v d
  | _, _, .non => .non
  | _, _, .bl b => .bl b
  | _, _, .int i => .int i
  | _, _, .str x => .str x
  | _, _, .lst h hs => .lst (Same.rd e h) (DpAll_mono e hs)
  | _, _, .tup h hs => .tup (Same.pl e h) (DpAll_mono e hs)
  | _, _, .dic h hk hs => .dic (e _ _ h) hk (DpAll_mono e hs)
theorem DpAll_mono {K : PySem.W.Frag} {H H' : Hp} (e : Same H H') : ∀ {vs : List V} {ds : List PyData}, DqAll K H vs ds → DqAll K H' vs ds
  | _, _, .nil => .nil
  | _, _, .cons h hs => .cons (Dp_mono e h) (DpAll_mono e hs)
end

/-- at a: an exception, its class, its dict, its context -/
def exh (a : Addr) (cls : Value) (d : Option Addr) (c : Value) : HO := .ext fun h => ∃ (o : Obj) (vs : Array Value), h.get? a = some o ∧ o.cls = cls ∧ o.dict = d ∧ o.data = .fields vs ∧ vs[2]? = some c
def Vl (K : PySem.W.Frag) (w : Wd) (v : V) : Sl → Prop
  | .no => False
  | .sh d => Dq K w.S v d
  | .ob i => ∃ p, w.rho[i]? = some p ∧ v = .ref p
  | .tp ds => ∃ a xs, v = .ref a ∧ SqT K w.S a xs ∧ DqAll K w.S xs ds
  | .ex C dat => ∃ (a dx : Addr) (cx : Value) (u : V), v = .ref a ∧ w.S a = some (exh a (.ref C) (some dx) cx) ∧ w.S dx = some (.xd [("what", u)]) ∧ Dq K w.S u dat
theorem Vl.mono {K : PySem.W.Frag} {w w' : Wd} (l : w.Le w') {v : V} : ∀ {x : Sl}, Vl K w v x → Vl K w' v x
  | .no, h => h
  | .sh _, h => Dp_mono l.st h
  | .ob i, ⟨p, h, e⟩ => ⟨p, l.rho i p h, e⟩
  | .tp _, ⟨a, xs, e, h, hs⟩ => ⟨a, xs, e, Same.tup l.st h, DpAll_mono l.st hs⟩
  | .ex _ _, ⟨a, dx, cx, u, e, h1, h2, h3⟩ => ⟨a, dx, cx, u, e, l.st _ _ h1, l.st _ _ h2, Dp_mono l.st h3⟩
def Sv (K : PySem.W.Frag) (w : Wd) (o : Option V) (x : Sl) : Prop := x = .no ∨ ∃ v, o = some v ∧ Vl K w v x
theorem Sv.mono {K : PySem.W.Frag} {w w' : Wd} (l : w.Le w') {o : Option V} {x : Sl} (h : Sv K w o x) : Sv K w' o x := by
  rcases h with h | ⟨v, e, h⟩
  · exact .inl h
  · exact .inr ⟨v, e, h.mono l⟩
/-- a dict of tuples, as it lies: each key by its address -/
def DTO (hf : NestedKey → Int) (p : Addr) (xs : List (NestedKey × Addr × Value)) : HO := .ext fun h => (p == sysModules) = false ∧ ∃ o es ep, h.get? p = some o ∧ o.ExactDict ∧ o.data = .dict es ep ∧ es.toList = xs.map fun x => (⟨hf x.1, .ref x.2.1, x.2.2⟩ : DictEntry)
def VdR (K : PySem.W.Frag) (w : Wd) (x : NestedKey × Addr × Value) (y : Sl) : Prop := Dq K w.S (.ref x.2.1) x.1.data ∧ x.1.depth ≤ 8 ∧ ∃ v, RelV v x.2.2 ∧ Vl K w v y
theorem VdR.mono {K : PySem.W.Frag} {w w' : Wd} (l : w.Le w') {x : NestedKey × Addr × Value} {y : Sl} (h : VdR K w x y) : VdR K w' x y := by
  obtain ⟨h1, h2, v, r, h3⟩ := h
  exact ⟨Dp_mono l.st h1, h2, v, r, h3.mono l⟩
def Ob (K : PySem.W.Frag) (w : Wd) (p : Addr) : OO → Prop
  | .gone => True
  | .lst xs => w.S p = none ∧ ∃ vs, w.H p = some (.lst vs) ∧ Paired (Vl K w) vs xs
  | .dk ks xs => w.S p = none ∧ ∃ vs, w.H p = some (.dK (ks.zip vs)) ∧ Paired (Vl K w) vs xs
  | .dt hf ks ys => w.S p = none ∧ ∃ xs : List (NestedKey × Addr × Value), w.H p = some (DTO hf p xs) ∧ ks = xs.map (·.1) ∧ ks.Nodup ∧ Paired (VdR K w) xs ys
  | .ins C ns xs => w.S p = none ∧ ns.length = xs.length ∧ ∃ dx vs, w.H p = some (.ins C dx (ns.zip vs)) ∧ Paired (Vl K w) vs xs
theorem Ob.mono {K : PySem.W.Frag} {w w' : Wd} (l : w.Le w') {p : Addr} (hS : w.S p = none → w'.S p = none) (hH : w'.H p = w.H p) : ∀ {o : OO}, Ob K w p o → Ob K w' p o
  | .gone, _ => trivial
  | .lst xs, ⟨s, vs, e, h⟩ => ⟨hS s, vs, hH.trans e, h.mono fun _ _ q => q.mono l⟩
  | .dk _ xs, ⟨s, vs, e, h⟩ => ⟨hS s, vs, hH.trans e, h.mono fun _ _ q => q.mono l⟩
  | .dt _ _ _, ⟨s, xs, e, hk, hn, h⟩ => ⟨hS s, xs, hH.trans e, hk, hn, h.mono fun _ _ q => q.mono l⟩
  | .ins _ _ _, ⟨s, hl, dx, vs, e, h⟩ => ⟨hS s, hl, dx, vs, hH.trans e, h.mono fun _ _ q => q.mono l⟩

/-- where a def was entered -/
structure Ct where
  S : Hp
  H : Hp
  rho : List Addr
structure B (K : PySem.W.Frag) (c : Ct) (w : Wd) (σ : St) (z : Z) : Prop where
  same : Same w.S w.H
  len : w.rho.length = z.ob.length
  nd : w.rho.Nodup
  tr : ∀ p ∈ w.rho, w.H p ≠ none
  sl : Paired (Sv K w) σ z.sl
  ob : ∀ (i : Nat) (o : OO) (p : Addr), z.ob[i]? = some o → w.rho[i]? = some p → Ob K w p o
  pre : ∀ (i : Nat) (p : Addr), c.rho[i]? = some p → w.rho[i]? = some p
  fr : ∀ a o, c.H a = some o → a ∉ c.rho → w.H a = some o
  nw : ∀ a o, w.S a = some o → c.S a ≠ none ∨ c.H a = none ∨ a ∈ c.rho
  st : Same c.S w.S
  nr : ∀ (i : Nat) (p : Addr), c.rho.length ≤ i → w.rho[i]? = some p → c.H p = none

theorem nodup_ixA {l : List Addr} (nd : l.Nodup) : ∀ {i j : Nat} {p : Addr}, l[i]? = some p → l[j]? = some p → i = j := by
  intro i j p h1 h2
  obtain ⟨a1, b1⟩ := List.getElem?_eq_some_iff.mp h1
  obtain ⟨a2, b2⟩ := List.getElem?_eq_some_iff.mp h2
  exact (List.getElem_inj nd).mp (b1.trans b2.symm)
section
variable {K : PySem.W.Frag} {c : Ct} {w : Wd} {σ : St} {z : Z}
theorem B.fresh (b : B K c w σ z) {p : Addr} (h : w.H p = none) : c.H p = none := by
  cases e : c.H p with
  | none => rfl
  | some o =>
    by_cases hp : p ∈ c.rho
    · obtain ⟨i, hi⟩ := List.getElem?_of_mem hp
      exact absurd h (b.tr p (List.mem_of_getElem? (b.pre i p hi)))
    · rw [b.fr p o e hp] at h
      cases h
theorem B.freshS (b : B K c w σ z) {p : Addr} (h : w.H p = none) : w.S p = none := by
  cases e : w.S p with
  | none => rfl
  | some o =>
    rw [b.same p o e] at h
    cases h
theorem B.ne (b : B K c w σ z) {p q : Addr} (h : w.H p = none) (hq : q ∈ w.rho) : q ≠ p := fun e => b.tr q hq (e ▸ h)
theorem le_new {p : Addr} {o : HO} (h : w.S p = none) : w.Le ⟨w.rho, upd w.S p o, upd w.H p o⟩ := ⟨fun a u e => by
  show upd w.S p o a = some u
  rw [upd_ne (ne_of_none e h)]
  exact e, fun _ _ h => h⟩
/-- a new thing that stays -/
theorem B.newS (b : B K c w σ z) {p : Addr} {o : HO} (h : w.H p = none) : B K c ⟨w.rho, upd w.S p o, upd w.H p o⟩ σ z := by
  have hs := b.freshS h
  have l : w.Le ⟨w.rho, upd w.S p o, upd w.H p o⟩ := le_new hs
  refine ⟨fun a u e => ?_, b.len, b.nd, fun q hq => ?_, b.sl.mono fun _ _ q => q.mono l, fun i x q h1 h2 => ?_, b.pre, fun a u e hn => ?_, fun a u e => ?_, b.st.trans l.st, b.nr⟩
  · show upd w.H p o a = some u
    have e : upd w.S p o a = some u := e
    by_cases ha : a = p
    · subst ha
      rw [upd_same] at e ⊢
      exact e
    · rw [upd_ne ha] at e ⊢
      exact b.same a u e
  · show upd w.H p o q ≠ none
    rw [upd_ne (b.ne h hq)]
    exact b.tr q hq
  · have hq := b.ne h (List.mem_of_getElem? h2)
    exact (b.ob i x q h1 h2).mono l (fun e => by
      show upd w.S p o q = none
      rw [upd_ne hq]
      exact e) (by
      show upd w.H p o q = w.H q
      rw [upd_ne hq])
  · show upd w.H p o a = some u
    have e2 := b.fr a u e hn
    rw [upd_ne (ne_of_none e2 h)]
    exact e2
  · have e : upd w.S p o a = some u := e
    by_cases ha : a = p
    · exact .inr (.inl (ha ▸ b.fresh h))
    · rw [upd_ne ha] at e
      exact b.nw a u e
theorem le_obj {p : Addr} {o : HO} {ps : List Addr} : w.Le ⟨w.rho ++ ps, w.S, upd w.H p o⟩ := ⟨Same.refl _, fun i q e => by
  show (w.rho ++ ps)[i]? = some q
  rw [List.getElem?_append_left (List.getElem?_eq_some_iff.mp e).1]
  exact e⟩
/-- a new object of the store -/
theorem B.newG (b : B K c w σ z) {p : Addr} {hu : HO} {oo : OO} (h : w.H p = none) (hob : ∀ w' : Wd, w.Le w' → w'.S p = none → w'.H p = some hu → Ob K w' p oo) :
    B K c ⟨w.rho ++ [p], w.S, upd w.H p hu⟩ σ ⟨z.sl, z.ob ++ [oo]⟩ := by
  have hs := b.freshS h
  have l : w.Le ⟨w.rho ++ [p], w.S, upd w.H p hu⟩ := le_obj
  have hpn : p ∉ w.rho := fun hp => b.tr p hp h
  refine ⟨fun a u e => ?_, ?_, ?_, fun q hq => ?_, b.sl.mono fun _ _ q => q.mono l, fun i x q h1 h2 => ?_, fun i q e => l.rho i q (b.pre i q e), fun a u e hn => ?_, b.nw, b.st, fun i q hi e => ?_⟩
  · show upd w.H p hu a = some u
    rw [upd_ne (ne_of_none (b.same a u e) h)]
    exact b.same a u e
  · show (w.rho ++ [p]).length = (z.ob ++ [oo]).length
    rw [List.length_append, List.length_append, b.len]
    rfl
  · exact List.nodup_append.mpr ⟨b.nd, by simp, fun a ha q hq => by
      rw [List.mem_singleton] at hq
      subst hq
      exact fun e => hpn (e ▸ ha)⟩
  · show upd w.H p hu q ≠ none
    by_cases hqp : q = p
    · subst hqp
      rw [upd_same]
      simp
    · rw [upd_ne hqp]
      rcases List.mem_append.mp hq with hq | hq
      · exact b.tr q hq
      · exact absurd (List.mem_singleton.mp hq) hqp
  · have h1 : (z.ob ++ [oo])[i]? = some x := h1
    have h2 : (w.rho ++ [p])[i]? = some q := h2
    by_cases hi : i < w.rho.length
    · rw [List.getElem?_append_left hi] at h2
      rw [List.getElem?_append_left (b.len ▸ hi)] at h1
      have hq := b.ne h (List.mem_of_getElem? h2)
      exact (b.ob i x q h1 h2).mono l (fun e => e) (by
        show upd w.H p hu q = w.H q
        rw [upd_ne hq])
    · have hi2 : i = w.rho.length := by
        have := (List.getElem?_eq_some_iff.mp h2).1
        rw [List.length_append] at this
        simp at this
        omega
      subst hi2
      rw [List.getElem?_append_right (Nat.le_refl _), Nat.sub_self] at h2
      rw [b.len, List.getElem?_append_right (Nat.le_refl _), Nat.sub_self] at h1
      cases h1
      cases h2
      exact hob _ l hs upd_same
  · show upd w.H p hu a = some u
    have e2 := b.fr a u e hn
    rw [upd_ne (ne_of_none e2 h)]
    exact e2
  · have e : (w.rho ++ [p])[i]? = some q := e
    by_cases hi2 : i < w.rho.length
    · rw [List.getElem?_append_left hi2] at e
      exact b.nr i q hi e
    · have : q ∈ [p] := by
        rw [List.getElem?_append_right (by omega)] at e
        exact List.mem_of_getElem? e
      rw [List.mem_singleton] at this
      subst this
      exact b.fresh h
theorem B.newO (b : B K c w σ z) {p : Addr} {vs : List V} {xs : List Sl} (h : w.H p = none) (hv : Paired (Vl K w) vs xs) :
    B K c ⟨w.rho ++ [p], w.S, upd w.H p (.lst vs)⟩ σ ⟨z.sl, z.ob ++ [.lst xs]⟩ := b.newG h fun _ l hS hH => ⟨hS, vs, hH, hv.mono fun _ _ q => q.mono l⟩
theorem le_set {p : Addr} {o : HO} : w.Le ⟨w.rho, w.S, upd w.H p o⟩ := ⟨Same.refl _, fun _ _ e => e⟩
/-- a list of the store is written -/
theorem B.setG (b : B K c w σ z) {i : Nat} {p : Addr} {o0 oo : OO} {hu : HO} (hi : z.ob[i]? = some o0) (hp : w.rho[i]? = some p) (hS : w.S p = none) (hob : ∀ w' : Wd, w.Le w' → w'.S p = none → w'.H p = some hu → Ob K w' p oo) :
    B K c ⟨w.rho, w.S, upd w.H p hu⟩ σ ⟨z.sl, z.ob.set i oo⟩ := by
  have l : w.Le ⟨w.rho, w.S, upd w.H p hu⟩ := le_set
  refine ⟨fun a u e => ?_, ?_, b.nd, fun q hq => ?_, b.sl.mono fun _ _ q => q.mono l, fun j x q h1 h2 => ?_, b.pre, fun a u e hn => ?_, b.nw, b.st, b.nr⟩
  · show upd w.H p hu a = some u
    rw [upd_ne (ne_of_none e hS)]
    exact b.same a u e
  · show w.rho.length = (z.ob.set i _).length
    rw [List.length_set]
    exact b.len
  · show upd w.H p hu q ≠ none
    by_cases hqp : q = p
    · subst hqp
      rw [upd_same]
      simp
    · rw [upd_ne hqp]
      exact b.tr q hq
  · have h1 : (z.ob.set i oo)[j]? = some x := h1
    have h2 : w.rho[j]? = some q := h2
    by_cases hj : i = j
    · subst hj
      rw [hp] at h2
      cases h2
      have hlt := (List.getElem?_eq_some_iff.mp hi).1
      rw [List.getElem?_set_self hlt] at h1
      cases h1
      exact hob _ l hS upd_same
    · rw [List.getElem?_set_ne hj] at h1
      have hqp : q ≠ p := fun e => by
        subst e
        exact hj (nodup_ixA b.nd hp h2)
      exact (b.ob j x q h1 h2).mono l (fun e => e) (by
        show upd w.H p hu q = w.H q
        rw [upd_ne hqp])
  · show upd w.H p hu a = some u
    by_cases hap : a = p
    · subst hap
      have := b.fr a u e hn
      by_cases hc : i < c.rho.length
      · have e5 : c.rho[i]? = some c.rho[i] := List.getElem?_eq_getElem hc
        have e6 := b.pre i _ e5
        rw [hp] at e6
        exact absurd (Option.some.inj e6 ▸ List.getElem_mem hc) hn
      · have e6 := b.nr i a (by omega) hp
        rw [e] at e6
        cases e6
    · rw [upd_ne hap]
      exact b.fr a u e hn
theorem B.setO (b : B K c w σ z) {i : Nat} {p : Addr} {xs ys : List Sl} {vs : List V} (hi : z.ob[i]? = some (.lst xs)) (hp : w.rho[i]? = some p) (hv : Paired (Vl K w) vs ys) :
    B K c ⟨w.rho, w.S, upd w.H p (.lst vs)⟩ σ ⟨z.sl, z.ob.set i (.lst ys)⟩ := b.setG hi hp (b.ob i _ p hi hp).1 fun _ l hS hH => ⟨hS, vs, hH, hv.mono fun _ _ q => q.mono l⟩
/-- a slot is written -/
theorem paired_set {α β : Type} {F : α → β → Prop} {a : α} {y : β} (h : F a y) : ∀ {l₁ : List α} {l₂ : List β} (i : Nat), Paired F l₁ l₂ → Paired F (l₁.set i a) (l₂.set i y)
  | _, _, _, .nil => .nil
  | _, _, 0, .cons _ t => .cons h t
  | _, _, i + 1, .cons q t => .cons q (paired_set h i t)
theorem paired_get {α β : Type} {F : α → β → Prop} : ∀ {l₁ : List α} {l₂ : List β} {i : Nat} {y : β}, Paired F l₁ l₂ → l₂[i]? = some y → ∃ x, l₁[i]? = some x ∧ F x y
  | _, _, _, _, .nil, e => by simp at e
  | _, _, 0, _, .cons r _, e => by simp at e; subst e; exact ⟨_, rfl, r⟩
  | _, _, i + 1, x, .cons _ t, e => by
    obtain ⟨u, h1, h2⟩ := paired_get (i := i) t (by simpa using e)
    exact ⟨u, by simpa using h1, h2⟩
theorem paired_get' {α β : Type} {F : α → β → Prop} : ∀ {l₁ : List α} {l₂ : List β} {i : Nat} {x : α}, Paired F l₁ l₂ → l₁[i]? = some x → ∃ y, l₂[i]? = some y ∧ F x y
  | _, _, _, _, .nil, e => by simp at e
  | _, _, 0, _, .cons r _, e => by simp at e; subst e; exact ⟨_, rfl, r⟩
  | _, _, i + 1, x, .cons _ t, e => by
    obtain ⟨u, h1, h2⟩ := paired_get' (i := i) t (by simpa using e)
    exact ⟨u, by simpa using h1, h2⟩
theorem paired_app {α β : Type} {F : α → β → Prop} : ∀ {l₁ m₁ : List α} {l₂ m₂ : List β}, Paired F l₁ l₂ → Paired F m₁ m₂ → Paired F (l₁ ++ m₁) (l₂ ++ m₂)
  | _, _, _, _, .nil, s => s
  | _, _, _, _, .cons r t, s => .cons r (paired_app t s)
theorem paired_take {α β : Type} {F : α → β → Prop} : ∀ {l₁ : List α} {l₂ : List β} (n : Nat), Paired F l₁ l₂ → Paired F (l₁.take n) (l₂.take n)
  | _, _, 0, _ => .nil
  | _, _, _ + 1, .nil => .nil
  | _, _, n + 1, .cons r t => .cons r (paired_take n t)
theorem paired_drop {α β : Type} {F : α → β → Prop} : ∀ {l₁ : List α} {l₂ : List β} (n : Nat), Paired F l₁ l₂ → Paired F (l₁.drop n) (l₂.drop n)
  | _, _, 0, r => r
  | _, _, _ + 1, .nil => .nil
  | _, _, n + 1, .cons _ t => paired_drop n t
theorem paired_rev {α β : Type} {F : α → β → Prop} : ∀ {l₁ : List α} {l₂ : List β}, Paired F l₁ l₂ → Paired F l₁.reverse l₂.reverse
  | _, _, .nil => .nil
  | _, _, .cons r t => by
    rw [List.reverse_cons, List.reverse_cons]
    exact (paired_rev t).snoc r
theorem B.setSl (b : B K c w σ z) {i : Nat} {v : V} {x : Sl} (h : Vl K w v x) : B K c w (σ.set i (some v)) ⟨z.sl.set i x, z.ob⟩ :=
  ⟨b.same, b.len, b.nd, b.tr, paired_set (.inr ⟨v, rfl, h⟩) i b.sl, b.ob, b.pre, b.fr, b.nw, b.st, b.nr⟩
theorem B.get (b : B K c w σ z) {i : Nat} {x : Sl} (h : z.sl[i]? = some x) (hx : x ≠ .no) : ∃ v, σ[i]? = some (some v) ∧ Vl K w v x := by
  obtain ⟨o, e, q⟩ := paired_get b.sl h
  rcases q with q | ⟨v, rfl, q⟩
  · exact absurd q hx
  · exact ⟨v, e, q⟩
theorem B.atOb (b : B K c w σ z) {i : Nat} {o : OO} (h : z.ob[i]? = some o) : ∃ p, w.rho[i]? = some p ∧ Ob K w p o := by
  have hlt := (List.getElem?_eq_some_iff.mp h).1
  have hl : i < w.rho.length := by
    rw [b.len]
    exact hlt
  have e : w.rho[i]? = some w.rho[i] := List.getElem?_eq_getElem hl
  exact ⟨_, e, b.ob i o _ h e⟩
end
end Dl

set_option maxHeartbeats 2000000
namespace Dl
open PySem PySem.Spec L2
open PyProof.Rows hiding St

/-! ### exceptions in the air, their contexts told -/
/-- class, dict, context of an exception's object -/
def Zk (cls : Value) (d : Option Addr) (c : Value) : Obj → Prop := fun o => o.cls = cls ∧ o.dict = d ∧ ∀ vs : Array Value, o.data = .fields vs → vs.size = 6 ∧ vs[2]? = some c
theorem Zk.steady {cls : Value} {d : Option Addr} {c : Value} : PXN.Steady1 (Zk cls d c) := fun o v h => ⟨PXN.steady_cls o v h.1, PXN.steady_dict o v h.2.1, fun vs e => by
  obtain ⟨oc, od, dt, sl⟩ := o
  cases dt with
  | fields vs0 =>
    have e2 : vs0.setIfInBounds 1 v = vs := Data.fields.inj e
    obtain ⟨h1, h2⟩ := h.2.2 vs0 rfl
    rw [← e2]
    refine ⟨by rw [Array.size_setIfInBounds]; exact h1, ?_⟩
    rw [Array.getElem?_setIfInBounds_ne (by decide)]
    exact h2
  | _ => exact Data.noConfusion e⟩
/-- the contexts, one behind another -/
inductive Chn (H : Hp) : Nat → Value → Prop
  | nil : Chn H 0 .none
  | cons {a : Addr} {cls : Value} {d : Option Addr} {c : Value} {n : Nat} : H a = some (exh a cls d c) → Chn H n c → Chn H (n + 1) (.ref a)
theorem Chn.mono {H H' : Hp} (k : ∀ a cls d c, H a = some (exh a cls d c) → H' a = some (exh a cls d c)) {n : Nat} {v : Value} (h : Chn H n v) : Chn H' n v := by
  induction h with
  | nil => exact .nil
  | cons e _ ih => exact .cons (k _ _ _ _ e) ih
abbrev lx (X : Cx) : Addr := X.env.frame.getD 0
/-- an exception in the air of X: sI is the state without it -/
structure Air (X : Cx) (pins : List (Addr × Obj)) (a : Addr) (B : Heap) (sI : Shared) (σ : St) (H : Hp) (cls : Value) (d : Option Addr) (c : Value) (s' : Shared) : Prop where
  I : Inv X pins σ H sI
  nb : ∀ b o, sI.heap.get? b = some o → b ∉ frs X.stack → B.get? b = some o
  up : sI.heap.UpToSlots s'.heap
  sky : Sky B X.stack a (Zk cls d c) (lx X) s'.heap
  na : H a = none
  os : s'.os = sI.os
  ag : AllBare s'.gens
def XEk (X : Cx) (W : WX) (u : Value) (s' : Shared) : Prop := ∃ (pins : List (Addr × Obj)) (a : Addr) (B : Heap) (sI : Shared) (σ : St) (H : Hp) (cls : Value) (d : Option Addr) (c : Value) (n : Nat), u = .ref a ∧ Air X pins a B sI σ H cls d c s' ∧ Chn H n c ∧ W cls d σ H
def Tk (X : Cx) (W : WX) : Prop := ∀ u s', XEk X W u s' → X.xe u s'
theorem Tk.imp {X : Cx} {W W' : WX} (t : Tk X W) (h : ∀ c d σ H, W' c d σ H → W c d σ H) : Tk X W' := fun u s' ⟨pins, a, B, sI, σ, H, cls, d, c, n, e, A, ch, w⟩ => t u s' ⟨pins, a, B, sI, σ, H, cls, d, c, n, e, A, ch, h _ _ _ _ w⟩
/-- .. of a def that it is to leave: its own names don't matter any more -/
structure Lvs (X : Cx) (a : Addr) (B : Heap) (H : Hp) (cls : Value) (d : Option Addr) (c : Value) (s' : Shared) : Prop where
  fr : X.A.frames = some X.stack
  ab : X.s_0.heap.objs.size ≤ X.env.locals
  fu : ∀ b ∈ X.fs, ∃ o, X.s_0.heap.get? b = some o ∧ ∀ vs, o.data ≠ .fields vs
  sky : Sky B X.stack a (Zk cls d c) (lx X) s'.heap
  hok : HOk X.prog X.w H B
  ub : UB X.fs X.H_0 H X.s_0.heap B s'.heap
  na : H a = none
  os : s'.os = X.s_0.os
  ag : AllBare s'.gens
def XLk (X : Cx) (W : WX) (u : Value) (s' : Shared) : Prop := ∃ (a : Addr) (B : Heap) (σ : St) (H : Hp) (cls : Value) (d : Option Addr) (c : Value) (n : Nat), u = .ref a ∧ Lvs X a B H cls d c s' ∧ Chn H n c ∧ W cls d σ H
def TkL (X : Cx) (W : WX) : Prop := ∀ u s', XLk X W u s' → X.xe u s'
theorem TkL.imp {X : Cx} {W W' : WX} (t : TkL X W) (h : ∀ c d σ H, W' c d σ H → W c d σ H) : TkL X W' := fun u s' ⟨a, B, σ, H, cls, d, c, n, e, A, ch, w⟩ => t u s' ⟨a, B, σ, H, cls, d, c, n, e, A, ch, h _ _ _ _ w⟩
/-- behind a call that let an exception out -/
def CXk (P : Program) (w : World) (outer : List Env) (H : Hp) (s : Shared) (E : XK) (u : Value) (s' : Shared) : Prop :=
  ∃ (a : Addr) (B : Heap) (H' : Hp) (cls : Value) (d : Option Addr) (c : Value) (n : Nat), u = .ref a ∧ HandSPX.FlyingZ B outer a (Zk cls d c) s'.heap ∧ HOk P w H' B ∧ UB (frs outer) H H' s.heap B s'.heap ∧ H' a = none ∧ Chn H' n c ∧ s'.os = s.os ∧ AllBare s'.gens ∧ E cls d H'
section
variable {X : Cx} {pins : List (Addr × Obj)} {σ : St} {H : Hp} {sI s s' : Shared} {B : Heap} {W : WX} {E : XK} {a : Addr} {cls c : Value} {d : Option Addr} {n : Nat}
theorem XEk.of_call (I : Inv X pins σ H s) (hW : ∀ cls d H', E cls d H' → W cls d σ H') {u : Value} (x : CXk X.prog X.w X.stack H s E u s') : XEk X W u s' := by
  obtain ⟨a, B, H', cls, d, c, n, rfl, fl, hok, ub, na, ch, os, ag, hE⟩ := x
  obtain ⟨G, g1, g2⟩ := restrict s'.heap fun b => (B.get? b).isSome || decide (b ∈ frs X.stack)
  have st : B.StaysIn s'.heap := fl.1
  have gB : ∀ b o, B.get? b = some o → G.get? b = some o := fun b o e => by
    rw [g1 b (by simp [e])]
    exact st b o e
  have gF : ∀ b, b ∈ frs X.stack → G.get? b = s'.heap.get? b := fun b hb => g1 b (by simp [hb])
  have og : ∀ b o, G.get? b = some o → s'.heap.get? b = some o ∧ ((B.get? b).isSome = true ∨ b ∈ frs X.stack) := fun b o e => by
    cases q : ((B.get? b).isSome || decide (b ∈ frs X.stack)) with
    | false => rw [g2 b q] at e; cases e
    | true =>
      rw [g1 b q] at e
      exact ⟨e, by simpa [Bool.or_eq_true] using q⟩
  have I2 : Inv X pins σ H' { s with heap := G, gens := s'.gens, drawn := s'.drawn, toks := s'.toks } := by
    refine I.call (ch := []) ⟨fun b o e n hb _ => gB b o (ub.keep b o e n hb), fun b o e n hb _ => ?_, fun b o e n _ => ub.free b o e n, fun b o e _ => ?_, ub.tups, ub.frzs, ub.tbls⟩ (hok.kept gB) ag (fun _ z => nomatch z)
    · obtain ⟨sl, q⟩ := ub.slot b o e hb
      exact ⟨sl, by rw [gF b hb]; exact q⟩
    · by_cases hb : b ∈ frs X.stack
      · obtain ⟨sl, q⟩ := ub.slot b o e hb
        exact ⟨_, by rw [gF b hb]; exact q⟩
      · obtain ⟨o', q⟩ := ub.there b o e hb
        exact ⟨o', gB b o' q⟩
  refine ⟨pins, a, B, { s with heap := G, gens := s'.gens, drawn := s'.drawn, toks := s'.toks }, σ, H', cls, d, c, n, rfl, ⟨I2, fun b o e hb => ?_, Heap.UpToSlots.of_keeps fun b o e => (og b o e).1, .inr (.inl fl), na, os, ag⟩, ch, hW _ _ _ hE⟩
  obtain ⟨e', h⟩ := og b o e
  rcases h with h | h
  · obtain ⟨o', q⟩ := Option.isSome_iff_exists.mp h
    have z := st b o' q
    rw [e'] at z; cases z
    exact q
  · exact absurd h hb
/-- a new exception is in our air -/
theorem Air.new {oe : Obj} {vs : Array Value} (I : Inv X pins σ H sI) (k : ∀ b o, sI.heap.get? b = some o → s'.heap.get? b = some o) (hne : sI.heap.get? a = none) (he : s'.heap.get? a = some oe)
    (hz : Zk cls d c oe) (hd : oe.data = .fields vs) (h1 : vs[1]? = some .none) (na : H a = none) (os : s'.os = sI.os) (ag : AllBare s'.gens) : Air X pins a (PySem.W.hideAll sI.heap (frs X.stack)) sI σ H cls d c s' := by
  refine ⟨I, fun b o e hb => PySem.W.hideAll_get _ e hb, Heap.UpToSlots.of_keeps k, .inl ⟨fun b o e => k b o (PySem.W.of_hideAll _ e), ?_, ?_, oe, vs, he, hz, hd, h1⟩, na, os, ag⟩
  · cases q : (PySem.W.hideAll sI.heap (frs X.stack)).get? a with
    | none => rfl
    | some o =>
      have z := PySem.W.of_hideAll _ q
      rw [hne] at z; cases z
  · exact Heap.FunFrames.of_keeps (fun b o e _ => ⟨o, k b o e, rfl⟩) (funFrames_none I.stack fun b hb => PySem.W.hideAll_none _ hb)
/-- what it needs to leave -/
theorem Air.lvs (A : Air X pins a B sI σ H cls d c s') (hs : X.stack = X.env :: X.outer) (hex : X.ex = []) : Lvs X a B H cls d c s' := by
  have I := A.I
  have nst : ∀ b o, X.s_0.heap.get? b = some o → b ∉ X.fs → b ∉ frs X.stack := fun b o e hb hm => by
    rcases List.mem_cons.mp (I.stkSub b hm) with z | z
    · have h1 := Heap.lt_size e
      have h2 := I.ok.above
      rw [z] at h1
      exact absurd (Nat.lt_of_lt_of_le h1 h2) (Nat.lt_irrefl _)
    · exact hb z
  have hex' : ∀ b, b ∉ X.ex := fun b hb => by rw [hex] at hb; cases hb
  refine ⟨I.ok.frames, I.ok.above, fun b hb => (I.ok.funs.mem hb).2, A.sky, I.inGround A.nb, ⟨fun b o e n hb => A.nb b o (I.base.keep b o e n hb (hex' b)) (nst b o e hb), fun b o e hb => ?_, fun b o e n => I.base.free b o e n (hex' b), fun b o e hb => ?_, I.base.tups, I.base.frzs, I.base.tbls⟩, A.na, A.os.trans I.os, A.ag⟩
  · obtain ⟨_, o₀, e₀, hnf⟩ := I.ok.funs.mem hb
    rw [e] at e₀; cases e₀
    obtain ⟨sl, e1⟩ := I.base.slot b o e (I.ok.frf b hb) hb (hex' b)
    obtain ⟨sl2, e2⟩ := A.up b _ e1 hnf
    exact ⟨sl2, e2⟩
  · obtain ⟨o', e1⟩ := I.base.there b o e (hex' b)
    exact ⟨o', A.nb b o' e1 (nst b o e hb)⟩
/-- it leaves the def -/
theorem XLk.leave (hs : X.stack = X.env :: X.outer) (hf : X.env.frame = some X.env.locals) {E₁ : Value → Shared → Prop} (hW : ∀ cls d σ H, W cls d σ H → E cls d H) {u : Value} (x : XLk X W u s') :
    wpAny (model X.prog X.w) X.A (leaving X.env u) (fun _ s'' => CXk X.prog X.w X.outer X.H_0 X.s_0 E u s'') E₁ s' := by
  obtain ⟨a, B, σ, H, cls, d, c, n, rfl, A, ch, w⟩ := x
  have hfr : X.A.frames = some (X.env :: X.outer) := by rw [A.fr, hs]
  have hL : lx X = X.env.locals := by
    show X.env.frame.getD 0 = _
    rw [hf]
    rfl
  have fin : ∀ h', HandSPX.FlyingZ B X.outer a (Zk cls d c) h' → s'.heap.UpToSlots h' → CXk X.prog X.w X.outer X.H_0 X.s_0 E (.ref a) { s' with heap := h' } := fun h' fl up' => by
    refine ⟨a, B, H, cls, d, c, n, rfl, fl, A.hok, ⟨A.ub.keep, fun b o e hb => ?_, A.ub.free, A.ub.there, A.ub.tups, A.ub.frzs, A.ub.tbls⟩, A.na, ch, A.os, A.ag, hW _ _ _ _ w⟩
    obtain ⟨o₀, e₀, hnf⟩ := A.fu b hb
    rw [e] at e₀; cases e₀
    obtain ⟨sl, e1⟩ := A.ub.slot b o e hb
    obtain ⟨sl3, e3⟩ := up' b _ e1 hnf
    exact ⟨sl3, e3⟩
  have sky := A.sky
  rw [hs, hL] at sky
  rcases sky with ⟨hB, hn, hl, oe, vs, he, hz, hd, h1⟩ | fl | hd
  · exact PXN.leaving_firstZ Zk.steady hfr hl hf he hB hn hd h1 hz fin
  · exact PXN.leaves_onZ Zk.steady hfr hf fl fin
  · exact HandSPX.leaves_heldZ hf hd fin
/-- a def's wish about exceptions -/
theorem tkL_of (hs : X.stack = X.env :: X.outer) (hf : X.env.frame = some X.env.locals) {E₁ : Value → Shared → Prop}
    (hx : X.xe = fun e s' => wpAny (model X.prog X.w) X.A (leaving X.env e) (fun _ s'' => CXk X.prog X.w X.outer X.H_0 X.s_0 E e s'') E₁ s') : TkL X (fun cls d _ H => E cls d H) := fun u s' x => by
  rw [hx]
  exact XLk.leave (W := fun cls d _ H => E cls d H) (E := E) hs hf (fun _ _ _ _ h => h) x
theorem TkL.tk (t : TkL X W) (hs : X.stack = X.env :: X.outer) (hex : X.ex = []) : Tk X W := fun u s' ⟨pins, a, B, sI, σ, H, cls, d, c, n, e, A, ch, w⟩ => t u s' ⟨a, B, σ, H, cls, d, c, n, e, A.lvs hs hex, ch, w⟩
end
/-! ### an exception that is made -/
def MkK (X : Cx) (pins : List (Addr × Obj)) (σ : St) (Q : XK) (u : Value) (s' : Shared) : Prop :=
  ∃ (a : Addr) (oe : Obj) (vs : Array Value) (sI : Shared) (H' : Hp) (cls : Value) (d : Option Addr), u = .ref a ∧ Inv X pins σ H' sI ∧ (∀ b o, sI.heap.get? b = some o → s'.heap.get? b = some o) ∧ sI.heap.get? a = none ∧ s'.heap.get? a = some oe ∧
    Zk cls d .none oe ∧ oe.data = .fields vs ∧ vs[1]? = some .none ∧ H' a = none ∧ s'.os = sI.os ∧ AllBare s'.gens ∧ Raises X cls ∧ Q cls d H'
def PMkK (X : Cx) (e : Expr) (t : St → Hp → XK → Prop) : Prop :=
  ∀ (pins : List (Addr × Obj)) (s : Shared) (σ : St) (H : Hp) (Q : XK), Inv X pins σ H s → t σ H Q → wpAny (model X.prog X.w) X.A (eval e X.env) (MkK X pins σ Q) X.xe s
theorem ps_raiseK {X : Cx} {W : WX} {e : Expr} {t : St → Hp → XK → Prop} {pos : Pos} (hc : X.calm = true) (tk : Tk X W) (he : PMkK X e t) : PS X (.Raise (some e) none pos) (fun _ σ H => t σ H fun cls d H' => W cls d σ H') := by
  refine ⟨fun pins s σ H D I h => ?_⟩
  show wpAny _ _ (do standAt pos; raiseStmt X.env (some (do let v ← eval e X.env; standAt pos; pure v)) none) _ _ _
  refine wpAny_bind (wpAny_standAt (raise_made (I.ok.hd hc) (wpAny_bind (wpAny_mono (he pins s σ H _ I h) (fun u s1 hu => wpAny_bind (wpAny_standAt (wpAny_pure ?_))) fun _ _ x => x))))
  obtain ⟨a, oe, vs, sI, H', cls, d, rfl, J, k, hne, ha, hz, hd, h1, na, os, ag, r, q⟩ := hu
  obtain ⟨r1, r2⟩ := r (model X.prog X.w) s1.heap (J.kIn.keeps k)
  exact ⟨a, oe, vs, cls, rfl, ha, hz.1, hd, h1, r1, r2, tk _ _ ⟨pins, a, _, sI, σ, H', cls, d, .none, 0, rfl, Air.new J k hne ha hz hd h1 na os ag, .nil, q⟩⟩
end Dl
namespace PySem
namespace DlX
open HandSPX Builtin Builtin.ObjectAttr
/-! ### an own exception class called, by place or by name -/
section
variable {M : Model} {A : Around} {E : Value → Shared → Prop} {h : Heap} {g : Array GenState} {d : Drawn} {t : Nat} {os : OsState}
variable {nm q : Str} {C N : Addr} {bs bm bmB : List Value} {hdct : Bool} {sn : List Str} {sub : List Value} {ab : Bool} {col : Option Bool} {dd : Option Addr} {k0 k1 k2 k3 k5 : Option Value} {B newId initId : String} {kw : List (Str × Value)}
theorem check_newK (F : ExcBaseFacts B newId initId bmB) (hT : ∀ X : String, bm.contains (.type X) = bmB.contains (.type X)) {rest : List Value} {Q : Unit → Shared → Prop}
    (hC : h.get? C = some (excClassObj nm q C N bs bm hdct sn sub ab col dd k0 k1 k2 k3 k5 newId)) (hq : Q () ⟨h, g, d, t, os⟩) : wpAny M A (checkBuiltinCall newId ⟨.ref C :: rest, kw⟩) Q E ⟨h, g, d, t, os⟩ := by
  have hcont : (Value.ref C :: bm).contains (.type B) = true := by rw [List.contains_cons, hT, F.hasB, Bool.or_true]
  have hstar := F.noStar
  simp only [checkBuiltinCall, F.newKind, F.newSplit, F.newRow]
  repeat (first | refine wpAny_loadPart_at hC ?_ | (refine wpAny_isSubtype_exc hC ?_; rw [hcont]) | refine wpAny_staticBase_exc hC ?_ | refine wpAny_madeBy_exc hC ?_ | simp only [bne_self_eq_false, Bool.false_eq_true, if_false] | wp_step)
  exact hq
end
section
variable {prog : Program} {w : World} {A : Around} {E : Value → Shared → Prop} {R : Result → Shared → Prop} {h : Heap} {g : Array GenState} {d : Drawn} {t : Nat} {os : OsState}
variable {nm q : Str} {C N : Addr} {bs bm bmB : List Value} {hdct : Bool} {sn : List Str} {sub : List Value} {ab : Bool} {col : Option Bool} {dd : Option Addr} {k0 k1 k2 k3 k5 : Option Value} {B newId initId : String} {kw : List (Str × Value)}
theorem new_ownK (F : ExcBaseFacts B newId initId bmB) (hT : ∀ X : String, bm.contains (.type X) = bmB.contains (.type X)) {rest : List Value}
    (hC : h.get? C = some (excClassObj nm q C N bs bm hdct sn sub ab col dd k0 k1 k2 k3 k5 newId))
    (hq : R (.ok (.ret (.ref (h.objs.size + 1)))) ⟨(h.push { cls := .type "tuple", data := .seq rest.toArray }).push
      { cls := .ref C, data := .fields #[.ref h.objs.size, .none, .none, .none, .bool false, .none] }, g, d, t, os⟩) (hrest : rest.length ≤ sizeLine) :
    codeAny (model prog w) A (.builtin newId ⟨.ref C :: rest, kw⟩) R ⟨h, g, d, t, os⟩ := by
  have hends := F.ends
  have hcB : (Value.ref C :: bm).contains (.type B) = true := by rw [List.contains_cons, hT, F.hasB, Bool.or_true]
  have hcA : (Value.ref C :: bm).contains (.type "AttributeError") = false := by rw [List.contains_cons, hT, F.noAttr]; rfl
  have hcN : (Value.ref C :: bm).contains (.type "NameError") = false := by rw [List.contains_cons, hT, F.noName]; rfl
  refine codeAny_builtinAt F.entry ?_
  unfold Builtin.«BaseException.__new__»
  refine wpAt_bind ?_
  show wpAt _ _ _ (stack >>= _) _ _ _
  refine wpAt_bind (wpAt_stack fun p below => wpAt_of_wpAny ?_)
  wp_walk
  refine wpAt_of_wpAny ?_
  rw [F.owner]
  repeat (first | with_reducible refine wpAny_madeHere_exc F.canon hC ?_ | with_reducible refine wpAny_loadPart_at hC ?_ | (with_reducible refine wpAny_isSubtype_exc hC ?_; first | rw [hcB] | rw [hcA] | rw [hcN]) | wp_step)
  show R _ _
  rw [Heap.size_push]
  exact hq
theorem type_call_ownK (F : ExcBaseFacts B newId initId bmB) (hT : ∀ X : String, bm.contains (.type X) = bmB.contains (.type X)) {rest : List Value} {fI : Addr} {Q : Fin → Shared → Prop}
    (hC : h.get? C = some (excClassObj nm q C N bs bm hdct sn sub ab col dd k0 k1 k2 k3 k5 newId))
    (hi : W.Looks (model prog w) h (typeLookup (.ref C) "__init__") (some (.ref fI))) (hb : ∀ self, W.Looks (model prog w) h (bindSpecial (.ref fI) self) (.ref fI, [self])) (hrest : rest.length ≤ sizeLine)
    (hq : codeAny (model prog w) A (.call (.ref fI) ⟨.ref (h.objs.size + 1) :: rest, kw⟩)
      (fun r s' => match r with | .ok (.ret v) => v = .none ∧ Q (.done (.ret (.ref (h.objs.size + 1)))) s' | .ok _ => False | .error e => E e s')
      ⟨(h.push (W.kdv_tup rest)).push (excO C h.objs.size), g, d, t, os⟩) :
    wpAny (model prog w) A (Builtin.«type.__call__» ⟨.ref C :: rest, kw⟩) Q E ⟨h, g, d, t, os⟩ := by
  repeat (first | with_reducible refine wpAny_loadPart_at hC ?_ | with_reducible refine wpAny_madeBy_exc hC ?_ | wp_step)
  refine codeAny_call_builtin_code (Code.quiet_builtin _ F.quiet) (check_newK F hT hC ?_)
  refine new_ownK F hT hC ?_ hrest
  show wpAny _ _ _ _ _ _
  have k : ∀ b o, h.get? b = some o → ((h.push (W.kdv_tup rest)).push (excO C h.objs.size)).get? b = some o := fun b o e => Heap.get?_push_of_some _ (Heap.get?_push_of_some _ e)
  have hC₁ := k _ _ hC
  have hget : ((h.push (W.kdv_tup rest)).push (excO C h.objs.size)).get? (h.objs.size + 1) = some (excO C h.objs.size) := by heap_get
  have hcC : (Value.ref C :: bm).contains (.ref C) = true := by simp
  have i1 := hi.keeps k
  have b1 := (hb (.ref (h.objs.size + 1))).keeps k
  unfold isInstance
  repeat (first | with_reducible refine wpAny_loadPart_at hget ?_ | (with_reducible refine wpAny_isSubtype_exc hC₁ ?_; rw [hcC]) | wp_step)
  show wpAny _ _ (typeLookup (.ref C) _) _ _ _
  refine i1.at ?_
  refine wpAny_holding (wpAny_bind (b1.at ?_))
  refine wpAny_bind (wpAny_call (codeAny_mono hq fun r s' z => ?_))
  rcases r with e | (v | _ | _ | _) <;> first | exact z | exact z.elim | skip
  obtain ⟨rfl, z⟩ := z
  first
    | exact wpAny_pure (wpAny_pure z)
    | (wp_walk; exact z)
theorem call_ownK (F : ExcBaseFacts B newId initId bmB) (hT : ∀ X : String, bm.contains (.type X) = bmB.contains (.type X)) {rest : List Value} {fI : Addr}
    (hC : h.get? C = some (excClassObj nm q C N bs bm hdct sn sub ab col dd k0 k1 k2 k3 k5 newId))
    (hi : W.Looks (model prog w) h (typeLookup (.ref C) "__init__") (some (.ref fI))) (hb : ∀ self, W.Looks (model prog w) h (bindSpecial (.ref fI) self) (.ref fI, [self])) (hrest : rest.length ≤ sizeLine)
    (hq : codeAny (model prog w) (A.under (.builtin "type.__call__" ⟨.ref C :: rest, kw⟩)) (.call (.ref fI) ⟨.ref (h.objs.size + 1) :: rest, kw⟩) (W.InitBack (h.objs.size + 1) R)
      ⟨(h.push (W.kdv_tup rest)).push (excO C h.objs.size), g, d, t, os⟩) :
    codeAny (model prog w) A (.call (.ref C) ⟨rest, kw⟩) R ⟨h, g, d, t, os⟩ := by
  have f1 := tc_lookup
  have f2 := tc_bind (.ref C)
  have hTy : (⟨h, g, d, t, os⟩ : Shared).TypeIs (.ref C) "type" := ⟨_, hC, rfl⟩
  refine codeAny_of_tree ?_
  show wpAny _ _ (callAny (.ref C) _) _ _ _
  repeat (any_goals (first | assumption | with_reducible refine wpAny_loadPart_at hC ?_ | wp_step))
  refine ⟨rfl, ?_⟩
  refine codeAny_call_builtin_at (Code.quiet_builtin _ (by decide +kernel)) entry_typeCall (wpAny_check_type_call_sub hC (type_call_ownK F hT hC hi hb hrest ?_))
  refine codeAny_mono hq fun r s' z => ?_
  rcases r with e | (v | _ | _ | _) <;> exact z
end
end DlX
end PySem

namespace Dl
open PySem PySem.Spec L2
open PyProof.Rows hiding St

/-! ### what a piece of the text does over data -/
/-- a context of the library's, and what holds when an exception leaves: of the class at C, its what the data d, at the world z -/
structure Cy extends Cx where
  RX : Addr → PyData → Z → Prop
  top : Bool
instance : CoeHead Cy Cx := ⟨Cy.toCx⟩
instance : CoeOut Cy Cx := ⟨Cy.toCx⟩
def Wc (RX : Addr → PyData → Z → Prop) (K : PySem.W.Frag) (c : Ct) : WX := fun cls d σ H => ∃ (C dx : Addr) (dat : PyData) (w : Wd) (z : Z) (v : V), cls = .ref C ∧ d = some dx ∧ B K c w σ z ∧ w.H = H ∧ w.S dx = some (.xd [("what", v)]) ∧ Dq K w.S v dat ∧ RX C dat z
/-- how a def began; what it lets out is taken -/
structure CtX (X : Cy) extends Ct where
  tk : Tk X.toCx (Wc X.RX X.K toCt)
  tl : X.top = true → TkL X.toCx (Wc X.RX X.K toCt)
instance {X : Cy} : CoeHead (CtX X) Ct := ⟨CtX.toCt⟩
instance {X : Cy} : CoeOut (CtX X) Ct := ⟨CtX.toCt⟩
/-- where nothing is let out -/
def CtX.of (X : Cy) (h : ∀ C d z, ¬ X.RX C d z) (c : Ct) : CtX X := ⟨c, fun u s' x => by
  obtain ⟨_, _, _, _, _, _, _, _, _, _, _, _, _, q⟩ := x
  obtain ⟨C, a, dat, w, z, v, _, _, _, _, _, _, r⟩ := q
  exact absurd r (h C dat z), fun _ u s' x => by
  obtain ⟨_, _, _, _, _, _, _, _, _, _, _, q⟩ := x
  obtain ⟨C, a, dat, w, z, v, _, _, _, _, _, _, r⟩ := q
  exact absurd r (h C dat z)⟩
def Cont (K : PySem.W.Frag) (c : Ct) (w : Wd) (σ : St) (Q : Sl → Z → Prop) (k : VK) : Prop := ∀ v x w' z', B K c w' σ z' → w.Le w' → Vl K w' v x → Q x z' → k v w'.H
def WE (X : Cy) (e : Expr) (z : Z) (Q : Sl → Z → Prop) : Prop := ∀ (c : CtX X) w σ k, B X.K c w σ z → Cont X.K c w σ Q k → tE X e σ w.H k
def WT (X : Cy) (e : Expr) (z : Z) (Q : Bool → Z → Prop) : Prop := ∀ (c : CtX X) w σ (k : Bool → Hp → Prop), B X.K c w σ z → (∀ b w' z', B X.K c w' σ z' → w.Le w' → Q b z' → k b w'.H) → tT X e σ w.H k
def WW (X : Cy) (e : Expr) (z : Z) (Q : Bool → Z → Prop) : Prop := ∀ (c : CtX X) w σ (k : Bool → Hp → Prop), B X.K c w σ z → (∀ b w' z', B X.K c w' σ z' → w.Le w' → Q b z' → k b w'.H) → tWh X e σ w.H k
def WA (X : Cy) (es : List Expr) (z : Z) (Q : List Sl → Z → Prop) : Prop := ∀ (c : CtX X) w σ (k : List V → Hp → Prop), B X.K c w σ z → (∀ vs xs w' z', B X.K c w' σ z' → w.Le w' → Paired (Vl X.K w') vs xs → Q xs z' → k vs w'.H) → tA X es σ w.H k
def RD (X : Cy) (f : Value → Value → Sem Value) (x y : Sl) (z : Z) (Q : Sl → Z → Prop) : Prop := ∀ (c : CtX X) w σ v u k, B X.K c w σ z → Vl X.K w v x → Vl X.K w u y → Cont X.K c w σ Q k → rB X f v u w.H k
def UD (X : Cy) (f : Value → Sem Value) (x : Sl) (z : Z) (Q : Sl → Z → Prop) : Prop := ∀ (c : CtX X) w σ v k, B X.K c w σ z → Vl X.K w v x → Cont X.K c w σ Q k → uB X f v w.H k
def CD (X : Cy) (f : Value) (xs : List Sl) (z : Z) (Q : Sl → Z → Prop) : Prop := ∀ (c : CtX X) w σ vs k, B X.K c w σ z → Paired (Vl X.K w) vs xs → Cont X.K c w σ Q k → cB X f vs w.H k
inductive Out where
  | nx (z : Z)
  | rt (x : Sl) (z : Z)
  | bk (z : Z)
  | ct (z : Z)
structure EndsOk (K : PySem.W.Frag) (c : Ct) (w : Wd) (Q : Out → Prop) (D : Ends) : Prop where
  nx : ∀ w' σ' z', B K c w' σ' z' → w.Le w' → Q (.nx z') → D.nx σ' w'.H
  rt : ∀ v x w' σ' z', B K c w' σ' z' → w.Le w' → Vl K w' v x → Q (.rt x z') → D.rt v w'.H
  bk : ∀ w' σ' z', B K c w' σ' z' → w.Le w' → Q (.bk z') → D.bk σ' w'.H
  ct : ∀ w' σ' z', B K c w' σ' z' → w.Le w' → Q (.ct z') → D.ct σ' w'.H
def W1 (X : Cy) (st : Stmt) (z : Z) (Q : Out → Prop) : Prop := ∀ (c : CtX X) w σ D, B X.K c w σ z → EndsOk X.K c w Q D → tS X st D σ w.H
def WS (X : Cy) (st : List Stmt) (z : Z) (Q : Out → Prop) : Prop := ∀ (c : CtX X) w σ D, B X.K c w σ z → EndsOk X.K c w Q D → tSs X st D σ w.H
theorem Cont.le {K : PySem.W.Frag} {c : Ct} {w w1 : Wd} {σ : St} {Q : Sl → Z → Prop} {k : VK} (h : Cont K c w σ Q k) (l : w.Le w1) : Cont K c w1 σ Q k := fun v x w' z' b l' q hq => h v x w' z' b (l.trans l') q hq
theorem EndsOk.le {K : PySem.W.Frag} {c : Ct} {w w1 : Wd} {Q : Out → Prop} {D : Ends} (h : EndsOk K c w Q D) (l : w.Le w1) : EndsOk K c w1 Q D :=
  ⟨fun w' σ' z' b l' q => h.nx w' σ' z' b (l.trans l') q, fun v x w' σ' z' b l' r q => h.rt v x w' σ' z' b (l.trans l') r q, fun w' σ' z' b l' q => h.bk w' σ' z' b (l.trans l') q, fun w' σ' z' b l' q => h.ct w' σ' z' b (l.trans l') q⟩

theorem vsh {K : PySem.W.Frag} {w : Wd} {v : V} {d : PyData} (h : Dq K w.S v d) : Vl K w v (.sh d) := h
theorem vI {K : PySem.W.Frag} {w : Wd} (i : Int) : Vl K w (.int i) (.sh (.int i)) := Dq.int i
theorem vB {K : PySem.W.Frag} {w : Wd} (i : Bool) : Vl K w (.bl i) (.sh (.bool i)) := Dq.bl i
theorem vS {K : PySem.W.Frag} {w : Wd} (i : Str) : Vl K w (.str i) (.sh (.str i)) := Dq.str i
theorem vN {K : PySem.W.Frag} {w : Wd} : Vl K w .non (.sh .none) := Dq.non
section
variable {X : Cy} {e a b : Expr} {es : List Expr} {z : Z} {pos : Pos} {Q Q' : Sl → Z → Prop}
theorem WE.mono (h : WE X e z Q) (q : ∀ x z', Q x z' → Q' x z') : WE X e z Q' := fun c w σ k b hk => h c w σ k b fun v x w' z' b' l r hq => hk v x w' z' b' l r (q x z' hq)
theorem RD.mono {f : Value → Value → Sem Value} {x y : Sl} (h : RD X f x y z Q) (q : ∀ x z', Q x z' → Q' x z') : RD X f x y z Q' := fun c w σ v u k b r1 r2 hk => h c w σ v u k b r1 r2 fun v x w' z' b' l r hq => hk v x w' z' b' l r (q x z' hq)
theorem WT.mono {P P' : Bool → Z → Prop} (h : WT X e z P) (q : ∀ x z', P x z' → P' x z') : WT X e z P' := fun c w σ k b hk => h c w σ k b fun x w' z' b' l hq => hk x w' z' b' l (q x z' hq)
theorem WA.mono {P P' : List Sl → Z → Prop} (h : WA X es z P) (q : ∀ x z', P x z' → P' x z') : WA X es z P' := fun c w σ k b hk => h c w σ k b fun vs x w' z' b' l r hq => hk vs x w' z' b' l r (q x z' hq)
theorem WS.mono {st : List Stmt} {P P' : Out → Prop} (h : WS X st z P) (q : ∀ o, P o → P' o) : WS X st z P' := fun c w σ D b hk => h c w σ D b
  ⟨fun w' σ' z' b' l hq => hk.nx w' σ' z' b' l (q _ hq), fun v x w' σ' z' b' l r hq => hk.rt v x w' σ' z' b' l r (q _ hq), fun w' σ' z' b' l hq => hk.bk w' σ' z' b' l (q _ hq), fun w' σ' z' b' l hq => hk.ct w' σ' z' b' l (q _ hq)⟩
/-! names, constants -/
theorem we_var {i : Nat} {x : Str} {s : Sl} (hN : X.N[i]? = some x) (hv : Vis X.env.scope x) (hs : z.sl[i]? = some s) (hx : s ≠ .no) (h : Q s z) (hd : (x == ("__debug__" : Str)) = false := by decide) (hcd : (x == ("__classdict__" : Str)) = false := by decide) : WE X (.Name x pos) z Q := by
  intro c w σ k b hk
  obtain ⟨v, e, q⟩ := b.get hs hx
  exact tE_of (pe_var hN hv hd hcd) ⟨v, e, hk v s w z b (.refl w) q h⟩
theorem we_int {i j} (h : Q (.sh (.int i)) z) : WE X (.Constant (.int i) j pos) z Q := fun c w σ k b hk => tE_of pe_int (hk _ _ w z b (.refl w) (vI i) h)
theorem we_bl {i j} (h : Q (.sh (.bool i)) z) : WE X (.Constant (.bool i) j pos) z Q := fun c w σ k b hk => tE_of pe_bl (hk _ _ w z b (.refl w) (vB i) h)
theorem we_non {j} (h : Q (.sh .none) z) : WE X (.Constant .none j pos) z Q := fun c w σ k b hk => tE_of pe_non (hk _ _ w z b (.refl w) vN h)
theorem we_str {i j} (h : Q (.sh (.str i)) z) : WE X (.Constant (.str i) j pos) z Q := fun c w σ k b hk => tE_of pe_str (hk _ _ w z b (.refl w) (vS i) h)
/-- a module's int or text -/
theorem we_gint {x : Str} {i : Int} {t : Tok} (hg : Gl X x) (hm : X.mg x = some (.int i t)) (h : Q (.sh (.int i)) z) (hd : (x == ("__debug__" : Str)) = false := by decide) : WE X (.Name x pos) z Q := fun c w σ k b hk => tE_of (pe_glob (v := .int i) hg hm ⟨t, rfl⟩ hd) (hk _ _ w z b (.refl w) (vI i) h)
theorem we_gstr {x : Str} {i : Str} {t : Tok} (hg : Gl X x) (hm : X.mg x = some (.str i t)) (h : Q (.sh (.str i)) z) (hd : (x == ("__debug__" : Str)) = false := by decide) : WE X (.Name x pos) z Q := fun c w σ k b hk => tE_of (pe_glob (v := .str i) hg hm ⟨t, rfl⟩ hd) (hk _ _ w z b (.refl w) (vS i) h)
/-! two operands -/
theorem bin_ok {r : R2} {f : Value → Value → Sem Value} (hr : r = rB X f) {c : CtX X} {w : Wd} {σ : St} {k : VK} (bb : B X.K c w σ z) (hk : Cont X.K c w σ Q k)
    (h : WE X a z fun x z1 => WE X b z1 fun y z2 => RD X f x y z2 Q) : tOp r (tE X a) (tE X b) σ w.H k := by
  subst hr
  exact h c w σ _ bb fun v x w1 z1 b1 l1 q1 h1 => h1 c w1 σ _ b1 fun u y w2 z2 b2 l2 q2 h2 => h2 c w2 σ v u k b2 (q1.mono l2) q2 (hk.le (l1.trans l2))
theorem we_bin {op : Operator} (h : WE X a z fun x z1 => WE X b z1 fun y z2 => RD X (binaryOp op) x y z2 Q) : WE X (.BinOp a op b pos) z Q := fun c w σ k bb hk => tE_of (pe_op rB_op peB peB) (bin_ok rfl bb hk h)
theorem we_cmp {op : CmpOp} (h : WE X a z fun x z1 => WE X b z1 fun y z2 => RD X (compareOp op) x y z2 Q) (hm : behindInMarks op b = false := by first | exact nomark _ | rfl) : WE X (.Compare a [op] [b] pos) z Q := fun c w σ k bb hk => tE_of (pe_cmpR rB_op peB peB hm) (bin_ok rfl bb hk h)
/-- a value that is a truth -/
def Tru (P : Bool → Z → Prop) : Sl → Z → Prop := fun x z => ∃ c, x = .sh (.bool c) ∧ P c z
theorem tru_i {P : Bool → Z → Prop} {c : Bool} (h : P c z) : Tru P (.sh (.bool c)) z := ⟨c, rfl, h⟩
theorem Dp_bl {K : PySem.W.Frag} {H : Hp} {v : V} {c : Bool} (h : Dq K H v (.bool c)) : v = .bl c := by cases h; rfl
theorem Dp_int {K : PySem.W.Frag} {H : Hp} {v : V} {c : Int} (h : Dq K H v (.int c)) : v = .int c := by cases h; rfl
theorem Dp_str {K : PySem.W.Frag} {H : Hp} {v : V} {c : Str} (h : Dq K H v (.str c)) : v = .str c := by cases h; rfl
theorem Dp_non {K : PySem.W.Frag} {H : Hp} {v : V} (h : Dq K H v .none) : v = .non := by cases h; rfl
theorem wt_cmp {op : CmpOp} {P : Bool → Z → Prop} (h : WE X a z fun x z1 => WE X b z1 fun y z2 => RD X (compareOp op) x y z2 (Tru P)) (hm : behindInMarks op b = false := by first | exact nomark _ | rfl) : WT X (.Compare a [op] [b] pos) z P := fun c w σ k bb hk =>
  tT_of (pt_cmpR rB_op peB peB hm) (bin_ok (Q := Tru P) rfl bb (fun v x w' z' b' l r ⟨c, e, hp⟩ => ⟨c, Dp_bl (e ▸ r), hk c w' z' b' l hp⟩) h)
theorem wt_val {P : Bool → Z → Prop} (h : WE X e z (Tru P)) (he : ∀ whole, isTrue e X.env whole = (do let v ← whole; standAt e.pos; holding [v] (truthy v)) := by intro _; rfl) : WT X e z P := fun c w σ k bb hk =>
  tT_of (pt_val peB he) (h c w σ _ bb fun v x w' z' b' l r ⟨c, e, hp⟩ => ⟨c, Dp_bl (e ▸ r), hk c w' z' b' l hp⟩)
theorem wt_not {P : Bool → Z → Prop} (h : WT X a z fun b z1 => P (!b) z1) : WT X (.UnaryOp .Not a pos) z P := fun c w σ k bb hk =>
  tT_of (pt_not ptB) (h c w σ _ bb fun b w' z' b' l hp => hk _ w' z' b' l hp)
theorem wt_ww {P : Bool → Z → Prop} (h : WW X e z P) : WT X e z P := fun c w σ k bb hk => tT_of (PW.pt pwB) (h c w σ _ bb hk)
theorem ww_and1 {P : Bool → Z → Prop} (h : WT X a z P) : WW X (.BoolOp .And [a] pos) z P := fun c w σ k bb hk => tWh_of (pw_and1 ptB) (h c w σ _ bb hk)
theorem ww_or1 {P : Bool → Z → Prop} (h : WT X a z P) : WW X (.BoolOp .Or [a] pos) z P := fun c w σ k bb hk => tWh_of (pw_or1 ptB) (h c w σ _ bb hk)
theorem ww_and {P : Bool → Z → Prop} {rest : List Expr} (h : WT X a z fun c z1 => (c = true → WW X (.BoolOp .And (b :: rest) pos) z1 P) ∧ (c = false → P false z1)) : WW X (.BoolOp .And (a :: b :: rest) pos) z P := fun c w σ k bb hk =>
  tWh_of (pw_and ptB pwB) (h c w σ _ bb fun d w' z' b' l hp => by
    cases d with
    | true =>
      show tWh X _ σ w'.H k
      exact hp.1 rfl c w' σ k b' fun d2 w2 z2 b2 l2 q => hk d2 w2 z2 b2 (l.trans l2) q
    | false =>
      show k false w'.H
      exact hk false w' z' b' l (hp.2 rfl))
theorem ww_or {P : Bool → Z → Prop} {rest : List Expr} (h : WT X a z fun c z1 => (c = true → P true z1) ∧ (c = false → WW X (.BoolOp .Or (b :: rest) pos) z1 P)) : WW X (.BoolOp .Or (a :: b :: rest) pos) z P := fun c w σ k bb hk =>
  tWh_of (pw_or ptB pwB) (h c w σ _ bb fun d w' z' b' l hp => by
    cases d with
    | false =>
      show tWh X _ σ w'.H k
      exact hp.2 rfl c w' σ k b' fun d2 w2 z2 b2 l2 q => hk d2 w2 z2 b2 (l.trans l2) q
    | true =>
      show k true w'.H
      exact hk true w' z' b' l (hp.1 rfl))
/-! and, or, not as values -/
theorem we_one {op} (h : WE X a z Q) : WE X (.BoolOp op [a] pos) z Q := fun c w σ k bb hk => tE_of (pe_one peB) (h c w σ _ bb hk)
theorem we_and {rest : List Expr} (h : WE X a z (Tru fun c z1 => (c = true → WE X (.BoolOp .And (b :: rest) pos) z1 Q) ∧ (c = false → Q (.sh (.bool false)) z1))) : WE X (.BoolOp .And (a :: b :: rest) pos) z Q := fun c w σ k bb hk =>
  tE_of (pe_and peB peB) (h c w σ _ bb fun v x w' z' b' l r ⟨d, e, hp⟩ => ⟨d, Dp_bl (e ▸ r), by
    cases d with
    | true =>
      show tE X _ σ w'.H k
      exact hp.1 rfl c w' σ k b' (hk.le l)
    | false =>
      show k (.bl false) w'.H
      exact hk (.bl false) _ w' z' b' l (vB false) (hp.2 rfl)⟩)
theorem we_or {rest : List Expr} (h : WE X a z (Tru fun c z1 => (c = true → Q (.sh (.bool true)) z1) ∧ (c = false → WE X (.BoolOp .Or (b :: rest) pos) z1 Q))) : WE X (.BoolOp .Or (a :: b :: rest) pos) z Q := fun c w σ k bb hk =>
  tE_of (pe_or peB peB) (h c w σ _ bb fun v x w' z' b' l r ⟨d, e, hp⟩ => ⟨d, Dp_bl (e ▸ r), by
    cases d with
    | false =>
      show tE X _ σ w'.H k
      exact hp.2 rfl c w' σ k b' (hk.le l)
    | true =>
      show k (.bl true) w'.H
      exact hk (.bl true) _ w' z' b' l (vB true) (hp.1 rfl)⟩)
theorem we_not (h : WE X a z (Tru fun c z1 => Q (.sh (.bool (!c))) z1)) : WE X (.UnaryOp .Not a pos) z Q := fun c w σ k bb hk =>
  tE_of (pe_not peB) (h c w σ _ bb fun v x w' z' b' l r ⟨d, e, hp⟩ => ⟨d, Dp_bl (e ▸ r), hk (.bl (!d)) _ w' z' b' l (vB (!d)) hp⟩)
theorem we_ifx {t : Expr} (h : WT X t z fun c z1 => (c = true → WE X a z1 Q) ∧ (c = false → WE X b z1 Q)) : WE X (.IfExp t a b pos) z Q := fun c w σ k bb hk =>
  tE_of (pe_ifExp ptB peB peB) (h c w σ _ bb fun d w' z' b' l hp => by
    cases d with
    | true =>
      show tE X _ σ w'.H k
      exact hp.1 rfl c w' σ k b' (hk.le l)
    | false =>
      show tE X _ σ w'.H k
      exact hp.2 rfl c w' σ k b' (hk.le l))
theorem we_un {op : UnaryOp} (h : WE X a z fun x z1 => UD X (unaryOp op) x z1 Q) : WE X (.UnaryOp op a pos) z Q := fun c w σ k bb hk =>
  tE_of (pe_un uB_op peB) (h c w σ _ bb fun v x w' z' b' l r hu => hu c w' σ v k b' r (hk.le l))
/-! argument lists, displays -/
theorem wa_nil {P : List Sl → Z → Prop} (h : P [] z) : WA X [] z P := fun c w σ k bb hk => tA_of pa_nil (hk [] [] w z bb (.refl w) .nil h)
theorem wa_cons {P : List Sl → Z → Prop} (h : WE X e z fun x z1 => WA X es z1 fun xs z2 => P (x :: xs) z2) (hs : starEach (e :: es) X.env = (false, eval e X.env) :: starEach es X.env := by rfl) : WA X (e :: es) z P := fun c w σ k bb hk =>
  tA_of (pa_cons peB paB hs) (h c w σ _ bb fun v x w1 z1 b1 l1 q1 h1 => h1 c w1 σ _ b1 fun vs xs w2 z2 b2 l2 q2 h2 => hk (v :: vs) (x :: xs) w2 z2 b2 (l1.trans l2) (.cons (q1.mono l2) q2) h2)
def allSh : List Sl → Option (List PyData)
  | [] => some []
  | .sh d :: r => match allSh r with
    | some l => some (d :: l)
    | none => none
  | _ :: _ => none
theorem allSh_inv {d : PyData} {r : List Sl} {ds : List PyData} (e : allSh (.sh d :: r) = some ds) : ∃ l, allSh r = some l ∧ d :: l = ds := by
  unfold allSh at e
  split at e
  · rename_i l h
    exact ⟨l, h, Option.some.inj e⟩
  · cases e
theorem allSh_dp {K : PySem.W.Frag} {w : Wd} : ∀ {xs : List Sl} {ds : List PyData} {vs : List V}, allSh xs = some ds → Paired (Vl K w) vs xs → DqAll K w.S vs ds
  | [], _, _, e, .nil => by
    cases e
    exact .nil
  | .sh d :: r, _, _, e, .cons q t => by
    obtain ⟨ds, e1, rfl⟩ := allSh_inv e
    exact .cons q (allSh_dp e1 t)
theorem dp_allSh {K : PySem.W.Frag} {w : Wd} : ∀ {ds : List PyData} {vs : List V}, DqAll K w.S vs ds → Paired (Vl K w) vs (ds.map Sl.sh)
  | _, _, .nil => .nil
  | _, _, .cons h t => .cons h (dp_allSh t)
theorem allSh_map (ds : List PyData) : allSh (ds.map Sl.sh) = some ds := by
  induction ds with
  | nil => rfl
  | cons d r ih =>
    show (match allSh (r.map Sl.sh) with | some l => some (d :: l) | none => none) = _
    rw [ih]
theorem allSh_len : ∀ {xs : List Sl} {ds : List PyData}, allSh xs = some ds → ds.length = xs.length
  | [], _, e => by
    cases e
    rfl
  | .sh d :: r, _, e => by
    obtain ⟨ds, e1, rfl⟩ := allSh_inv e
    simp [allSh_len e1]
/-- a new tuple, a new list that stays -/
theorem new_tup {K : PySem.W.Frag} {c : Ct} {w : Wd} {σ : St} {k : VK} {vs : List V} {ds : List PyData} (bb : B K c w σ z) (hv : DqAll K w.S vs ds) (hk : Cont K c w σ Q k) (h : Q (.sh (.tuple ds)) z) : ∀ (p : Addr) (o : Obj), w.H p = none → o.dict = none → k (.ref p) (upd w.H p (.frz o (.tup vs))) := fun p o hp ho => by
  have l : w.Le ⟨w.rho, upd w.S p (.frz o (.tup vs)), upd w.H p (.frz o (.tup vs))⟩ := le_new (bb.freshS hp)
  exact hk (.ref p) (.sh (.tuple ds)) ⟨w.rho, upd w.S p (.frz o (.tup vs)), upd w.H p (.frz o (.tup vs))⟩ z (bb.newS hp) l (Dq.tup (.inl ⟨o, upd_same, ho⟩) (DpAll_mono l.st hv)) h
theorem new_lstF {K : PySem.W.Frag} {c : Ct} {w : Wd} {σ : St} {k : VK} {vs : List V} {ds : List PyData} (bb : B K c w σ z) (hv : DqAll K w.S vs ds) (hk : Cont K c w σ Q k) (h : Q (.sh (.list ds)) z) : ∀ p, w.H p = none → k (.ref p) (upd w.H p (.lst vs)) := fun p hp => by
  have l : w.Le ⟨w.rho, upd w.S p (.lst vs), upd w.H p (.lst vs)⟩ := le_new (bb.freshS hp)
  exact hk (.ref p) (.sh (.list ds)) ⟨w.rho, upd w.S p (.lst vs), upd w.H p (.lst vs)⟩ z (bb.newS hp) l (Dq.lst (.inl upd_same) (DpAll_mono l.st hv)) h
theorem new_lst {K : PySem.W.Frag} {c : Ct} {w : Wd} {σ : St} {k : VK} {vs : List V} {xs : List Sl} (bb : B K c w σ z) (hv : Paired (Vl K w) vs xs) (hk : Cont K c w σ Q k) (h : Q (.ob z.ob.length) ⟨z.sl, z.ob ++ [.lst xs]⟩) : ∀ p, w.H p = none → k (.ref p) (upd w.H p (.lst vs)) := fun p hp => by
  refine hk (.ref p) (.ob z.ob.length) ⟨w.rho ++ [p], w.S, upd w.H p (.lst vs)⟩ _ (bb.newO hp hv) le_obj ⟨p, ?_, rfl⟩ h
  show (w.rho ++ [p])[z.ob.length]? = some p
  rw [← bb.len, List.getElem?_append_right (Nat.le_refl _), Nat.sub_self]
  rfl
theorem we_tup {x1} (h : WA X es z fun xs z1 => ∃ ds, allSh xs = some ds ∧ xs.length ≤ 100000 ∧ Q (.sh (.tuple ds)) z1) : WE X (.Tuple es x1 pos) z Q := fun c w σ k bb hk =>
  tE_of (pe_tupP paB) (h c w σ _ bb fun vs xs w' z' b' l r ⟨ds, e, hl, hq⟩ => ⟨by rw [r.length]; exact Nat.le_trans hl (by decide), new_tup b' (allSh_dp e r) (hk.le l) hq⟩)
theorem we_lstF (h : WA X es z fun xs z1 => ∃ ds, allSh xs = some ds ∧ xs.length ≤ 100000 ∧ Q (.sh (.list ds)) z1) : WE X (.List es pos) z Q := fun c w σ k bb hk =>
  tE_of (pe_lst paB) (h c w σ _ bb fun vs xs w' z' b' l r ⟨ds, e, hl, hq⟩ => ⟨by rw [r.length]; exact Nat.le_trans hl (by decide), new_lstF b' (allSh_dp e r) (hk.le l) hq⟩)
theorem we_lst (h : WA X es z fun xs z1 => xs.length ≤ 100000 ∧ Q (.ob z1.ob.length) ⟨z1.sl, z1.ob ++ [.lst xs]⟩) : WE X (.List es pos) z Q := fun c w σ k bb hk =>
  tE_of (pe_lst paB) (h c w σ _ bb fun vs xs w' z' b' l r ⟨hl, hq⟩ => ⟨by rw [r.length]; exact Nat.le_trans hl (by decide), new_lst b' r (hk.le l) hq⟩)
end
end Dl

namespace Dl
open PySem PySem.Spec L2
open PyProof.Rows hiding St

/-! ### contexts within contexts; a thing aside -/
section
variable {K : PySem.W.Frag} {c : Ct} {w w' : Wd} {σ σ' : St} {z z' : Z}
def Wd.ct (w : Wd) : Ct := ⟨w.S, w.H, w.rho⟩
theorem B.self (b : B K c w σ z) : B K w.ct w σ z := ⟨b.same, b.len, b.nd, b.tr, b.sl, b.ob, fun _ _ h => h, fun _ _ h _ => h, fun a o h => .inl (by
  show w.S a ≠ none
  rw [h]
  simp), Same.refl _, fun i p hi e => by
    have h1 : i < w.rho.length := (List.getElem?_eq_some_iff.mp e).1
    exact absurd h1 (Nat.not_lt.mpr hi)⟩
theorem B.inOr (b : B K c w σ z) {a : Addr} (h : a ∈ w.rho) : c.H a = none ∨ a ∈ c.rho := by
  obtain ⟨i, hi⟩ := List.getElem?_of_mem h
  by_cases hlt : i < c.rho.length
  · have e5 : c.rho[i]? = some c.rho[i] := List.getElem?_eq_getElem hlt
    have e6 := b.pre i _ e5
    rw [hi] at e6
    exact .inr (Option.some.inj e6 ▸ List.getElem_mem hlt)
  · exact .inl (b.nr i a (by omega) hi)
theorem B.comp (b : B K c w σ z) (b' : B K w.ct w' σ' z') : B K c w' σ' z' := by
  refine ⟨b'.same, b'.len, b'.nd, b'.tr, b'.sl, b'.ob, fun i p h => b'.pre i p (b.pre i p h), fun a o h hn => ?_, fun a o h => ?_, b.st.trans b'.st, fun i p hi h => ?_⟩
  · by_cases ha : a ∈ w.rho
    · obtain ⟨i, hi⟩ := List.getElem?_of_mem ha
      by_cases hlt : i < c.rho.length
      · have e5 : c.rho[i]? = some c.rho[i] := List.getElem?_eq_getElem hlt
        have e6 := b.pre i _ e5
        rw [hi] at e6
        exact absurd (Option.some.inj e6 ▸ List.getElem_mem hlt) hn
      · have e6 := b.nr i a (by omega) hi
        rw [h] at e6
        cases e6
    · exact b'.fr a o (b.fr a o h hn) ha
  · rcases b'.nw a o h with q | q | q
    · cases e : w.S a with
      | none => exact absurd e q
      | some u => exact b.nw a u e
    · exact .inr (.inl (b.fresh q))
    · exact .inr (b.inOr q)
  · by_cases hlt : i < w.rho.length
    · have e : w.rho[i]? = some w.rho[i] := List.getElem?_eq_getElem hlt
      have e2 := b'.pre i _ e
      rw [h] at e2
      have e3 : p = w.rho[i] := Option.some.inj e2
      rw [← e3] at e
      exact b.nr i p hi e
    · have h2 : w.H p = none := b'.nr i p (Nat.not_lt.mp hlt) h
      exact b.fresh h2
theorem B.le (b : B K w.ct w' σ z) : w.Le w' := ⟨b.st, b.pre⟩
/-- a thing aside, tracked, none of the store's, not staying -/
structure Aside (c : Ct) (w : Wd) (D : Addr) : Prop where
  nr : D ∉ w.rho
  nS : w.S D = none
  nc : c.H D = none
theorem le_aside {D : Addr} {o : HO} : w.Le ⟨w.rho, w.S, upd w.H D o⟩ := ⟨Same.refl _, fun _ _ e => e⟩
theorem B.aside (b : B K c w σ z) {D : Addr} {o : HO} (h : Aside c w D) : B K c ⟨w.rho, w.S, upd w.H D o⟩ σ z := by
  have l : w.Le ⟨w.rho, w.S, upd w.H D o⟩ := le_aside
  refine ⟨fun a u e => ?_, b.len, b.nd, fun q hq => ?_, b.sl.mono fun _ _ q => q.mono l, fun i x q h1 h2 => ?_, b.pre, fun a u e hn => ?_, b.nw, b.st, b.nr⟩
  · show upd w.H D o a = some u
    rw [upd_ne (ne_of_none e h.nS)]
    exact b.same a u e
  · show upd w.H D o q ≠ none
    have hqD : q ≠ D := fun e => h.nr (e ▸ hq)
    rw [upd_ne hqD]
    exact b.tr q hq
  · have hq : q ≠ D := fun e => h.nr (e ▸ List.mem_of_getElem? h2)
    exact (b.ob i x q h1 h2).mono l (fun e => e) (by
      show upd w.H D o q = w.H q
      rw [upd_ne hq])
  · show upd w.H D o a = some u
    rw [upd_ne (ne_of_none e h.nc)]
    exact b.fr a u e hn
theorem B.asideNew (b : B K c w σ z) {D : Addr} (h : w.H D = none) : Aside c w D := ⟨fun hq => b.tr D hq h, b.freshS h, b.fresh h⟩
/-- it comes to stay -/
theorem le_stay {D : Addr} {o : HO} (h : w.S D = none) : w.Le ⟨w.rho, upd w.S D o, w.H⟩ := ⟨fun a u e => by
  show upd w.S D o a = some u
  rw [upd_ne (ne_of_none e h)]
  exact e, fun _ _ e => e⟩
theorem B.stay (b : B K c w σ z) {D : Addr} {o : HO} (h : Aside c w D) (hH : w.H D = some o) : B K c ⟨w.rho, upd w.S D o, w.H⟩ σ z := by
  have l : w.Le ⟨w.rho, upd w.S D o, w.H⟩ := le_stay h.nS
  refine ⟨fun a u e => ?_, b.len, b.nd, b.tr, b.sl.mono fun _ _ q => q.mono l, fun i x q h1 h2 => ?_, b.pre, b.fr, fun a u e => ?_, b.st.trans l.st, b.nr⟩
  · have e : upd w.S D o a = some u := e
    show w.H a = some u
    by_cases ha : a = D
    · subst ha
      rw [upd_same] at e
      rw [hH, e]
    · rw [upd_ne ha] at e
      exact b.same a u e
  · have hq : q ≠ D := fun e => h.nr (e ▸ List.mem_of_getElem? h2)
    exact (b.ob i x q h1 h2).mono l (fun e => by
      show upd w.S D o q = none
      rw [upd_ne hq]
      exact e) rfl
  · have e : upd w.S D o a = some u := e
    by_cases ha : a = D
    · exact .inr (.inl (ha ▸ h.nc))
    · rw [upd_ne ha] at e
      exact b.nw a u e
/-- it comes into the store -/
theorem le_push {ps : List Addr} : w.Le ⟨w.rho ++ ps, w.S, w.H⟩ := ⟨Same.refl _, fun i q e => by
  show (w.rho ++ ps)[i]? = some q
  rw [List.getElem?_append_left (List.getElem?_eq_some_iff.mp e).1]
  exact e⟩
theorem B.push (b : B K c w σ z) {D : Addr} {vs : List V} {xs : List Sl} (h : Aside c w D) (hH : w.H D = some (.lst vs)) (hv : Paired (Vl K w) vs xs) : B K c ⟨w.rho ++ [D], w.S, w.H⟩ σ ⟨z.sl, z.ob ++ [.lst xs]⟩ := by
  have l : w.Le ⟨w.rho ++ [D], w.S, w.H⟩ := le_push
  refine ⟨b.same, ?_, ?_, fun q hq => ?_, b.sl.mono fun _ _ q => q.mono l, fun i x q h1 h2 => ?_, fun i q e => l.rho i q (b.pre i q e), b.fr, b.nw, b.st, fun i q hi e => ?_⟩
  · show (w.rho ++ [D]).length = (z.ob ++ [OO.lst xs]).length
    rw [List.length_append, List.length_append, b.len]
    rfl
  · exact List.nodup_append.mpr ⟨b.nd, by simp, fun a ha q hq => by
      rw [List.mem_singleton] at hq
      subst hq
      exact fun e => h.nr (e ▸ ha)⟩
  · show w.H q ≠ none
    rcases List.mem_append.mp hq with hq | hq
    · exact b.tr q hq
    · rw [List.mem_singleton] at hq
      rw [hq, hH]
      simp
  · have h1 : (z.ob ++ [OO.lst xs])[i]? = some x := h1
    have h2 : (w.rho ++ [D])[i]? = some q := h2
    by_cases hi : i < w.rho.length
    · rw [List.getElem?_append_left hi] at h2
      rw [List.getElem?_append_left (b.len ▸ hi)] at h1
      exact (b.ob i x q h1 h2).mono l (fun e => e) rfl
    · have hi2 : i = w.rho.length := by
        have := (List.getElem?_eq_some_iff.mp h2).1
        rw [List.length_append] at this
        simp at this
        omega
      subst hi2
      rw [List.getElem?_append_right (Nat.le_refl _), Nat.sub_self] at h2
      rw [b.len, List.getElem?_append_right (Nat.le_refl _), Nat.sub_self] at h1
      cases h1
      cases h2
      exact ⟨h.nS, vs, hH, hv.mono fun _ _ q => q.mono l⟩
  · have e : (w.rho ++ [D])[i]? = some q := e
    by_cases hi2 : i < w.rho.length
    · rw [List.getElem?_append_left hi2] at e
      exact b.nr i q hi e
    · have : q ∈ [D] := by
        rw [List.getElem?_append_right (by omega)] at e
        exact List.mem_of_getElem? e
      rw [List.mem_singleton] at this
      subst this
      exact h.nc
/-- behind a piece that was entered here it is as it was -/
theorem Aside.on {D : Addr} {o : HO} (b : B K c w σ z) (h : Aside c w D) (hH : w.H D = some o) (b' : B K w.ct w' σ' z') : Aside c w' D ∧ w'.H D = some o := by
  refine ⟨⟨fun hq => ?_, ?_, h.nc⟩, b'.fr D o hH h.nr⟩
  · obtain ⟨i, hi⟩ := List.getElem?_of_mem hq
    by_cases hlt : i < w.rho.length
    · have e : w.rho[i]? = some w.rho[i] := List.getElem?_eq_getElem hlt
      have e2 := b'.pre i _ e
      rw [hi] at e2
      exact h.nr (Option.some.inj e2 ▸ List.getElem_mem hlt)
    · have h2 : w.H D = none := b'.nr i D (Nat.not_lt.mp hlt) hi
      rw [hH] at h2
      cases h2
  · cases e : w'.S D with
    | none => rfl
    | some u =>
      rcases b'.nw D u e with q | q | q
      · exact absurd h.nS q
      · have q : w.H D = none := q
        rw [hH] at q
        cases q
      · exact absurd q h.nr
end

/-! ### statements -/
section
variable {X : Cy} {e a b : Expr} {es : List Expr} {z : Z} {pos : Pos} {Q Q' : Out → Prop} {st : Stmt} {rest body orelse : List Stmt}
def Seq (X : Cy) (rest : List Stmt) (Q : Out → Prop) : Out → Prop
  | .nx z => WS X rest z Q
  | o => Q o
theorem seq_nx (h : WS X rest z Q) : Seq X rest Q (.nx z) := h
theorem seq_rt {x : Sl} (h : Q (.rt x z)) : Seq X rest Q (.rt x z) := h
theorem seq_bk (h : Q (.bk z)) : Seq X rest Q (.bk z) := h
theorem seq_ct (h : Q (.ct z)) : Seq X rest Q (.ct z) := h
theorem ws_nil (h : Q (.nx z)) : WS X [] z Q := fun c w σ D bb hk => tSs_of pss_nil (hk.nx w σ z bb (.refl w) h)
theorem ws_cons (h : W1 X st z (Seq X rest Q)) : WS X (st :: rest) z Q := fun c w σ D bb hk => tSs_of (pss_cons psB pssB) (h c w σ { D with nx := fun σ' H' => tSs X rest D σ' H' } bb
  ⟨fun w' σ' z' b' l q => q c w' σ' D b' (hk.le l), fun v x w' σ' z' b' l r q => hk.rt v x w' σ' z' b' l r q, fun w' σ' z' b' l q => hk.bk w' σ' z' b' l q, fun w' σ' z' b' l q => hk.ct w' σ' z' b' l q⟩)
theorem w1_pass (h : Q (.nx z)) : W1 X (.Pass pos) z Q := fun c w σ D bb hk => tS_of ps_pass (hk.nx w σ z bb (.refl w) h)
theorem w1_break (h : Q (.bk z)) : W1 X (.Break pos) z Q := fun c w σ D bb hk => tS_of ps_break (hk.bk w σ z bb (.refl w) h)
theorem w1_cont (h : Q (.ct z)) : W1 X (.Continue pos) z Q := fun c w σ D bb hk => tS_of ps_continue (hk.ct w σ z bb (.refl w) h)
theorem w1_doc {x j pos'} (h : Q (.nx z)) : W1 X (.Expr (.Constant (.str x) j pos) pos') z Q := fun c w σ D bb hk => tS_of ps_doc (hk.nx w σ z bb (.refl w) h)
theorem w1_expr (h : WE X e z fun _ z1 => Q (.nx z1)) (hs : swapsWith e none pos.line X.env = pure false := by rfl) : W1 X (.Expr e pos) z Q := fun c w σ D bb hk =>
  tS_of (ps_expr peB hs) (h c w σ _ bb fun v x w' z' b' l r q => hk.nx w' σ z' b' l q)
theorem w1_ret (h : WE X e z fun x z1 => Q (.rt x z1)) : W1 X (.Return (some e) pos) z Q := fun c w σ D bb hk =>
  tS_of (ps_ret peB) (h c w σ _ bb fun v x w' z' b' l r q => hk.rt v x w' σ z' b' l r q)
theorem w1_retN (h : Q (.rt (.sh .none) z)) : W1 X (.Return none pos) z Q := fun c w σ D bb hk => tS_of ps_retN (hk.rt .non _ w σ z bb (.refl w) vN h)
theorem w1_set {i : Nat} {y : Str} {pos' : Pos} (hN : X.N.Nodup) (hi : X.N[i]? = some y) (hx : Loc X.env.scope y) (h : WE X e z fun x z1 => Q (.nx ⟨z1.sl.set i x, z1.ob⟩)) (hs : swapsWith e (some (.Name y pos')) pos.line X.env = pure false := by rfl)
    (hf : X.fn y = true ∨ X.env.scope.names.lookup y = some .local := by first | exact .inl rfl | exact .inr rfl) : W1 X (.Assign [.Name y pos'] e pos) z Q := fun c w σ D bb hk =>
  tS_of (ps_set hN hi hx peB hs hf) (h c w σ _ bb fun v x w' z' b' l r q => hk.nx w' _ _ (b'.setSl r) l q)
theorem w1_if {t : Expr} (h : WT X t z fun d z1 => (d = true → WS X body z1 Q) ∧ (d = false → WS X orelse z1 Q)) : W1 X (.If t body orelse pos) z Q := fun c w σ D bb hk =>
  tS_of (ps_if ptB pssB pssB) (h c w σ _ bb fun d w' z' b' l hp => by
    cases d with
    | true =>
      show tSs X body D σ w'.H
      exact hp.1 rfl c w' σ D b' (hk.le l)
    | false =>
      show tSs X orelse D σ w'.H
      exact hp.2 rfl c w' σ D b' (hk.le l))
def LoopQ (N : Z → Prop) (Q : Out → Prop) : Out → Prop
  | .nx z => N z
  | .ct z => N z
  | .bk z => Q (.nx z)
  | .rt x z => Q (.rt x z)
theorem w1_while {t : Expr} (I : Nat → Z → Prop) {m : Nat} (h0 : I m z) (h : ∀ n z, I n z → WT X t z fun d z1 => (d = true → WS X body z1 (LoopQ (fun z2 => ∃ n', n' < n ∧ I n' z2) Q)) ∧ (d = false → Q (.nx z1)))
    (hp : PassesOwn (model X.prog X.w) X.A X.env X.xe := by exact PassesOwn.never) : W1 X (.While t body [] pos) z Q := fun c w σ D bb hk =>
  tS_of (ps_while hp ptB pssB) ⟨fun n σ' H' => ∃ w' z', B X.K c w' σ' z' ∧ w.Le w' ∧ w'.H = H' ∧ I n z', ⟨m, w, z, bb, .refl w, rfl, h0⟩, by
    rintro n σ1 H1 ⟨w1, z1, b1, l1, rfl, hI⟩
    refine h n z1 hI c w1 σ1 _ b1 fun d w2 z2 b2 l2 hp => ?_
    cases d with
    | true =>
      show ∃ N : St → Hp → Prop, _
      refine ⟨fun σ' H' => ∃ n', n' < n ∧ ∃ w' z', B X.K c w' σ' z' ∧ w.Le w' ∧ w'.H = H' ∧ I n' z', fun σ' H' ⟨n', hn, q⟩ => ⟨n', hn, q⟩, ?_⟩
      have l3 := l1.trans l2
      exact hp.1 rfl c w2 σ1 _ b2 ⟨fun w' σ' z' b' l ⟨n', hn, q⟩ => ⟨n', hn, w', z', b', l3.trans l, rfl, q⟩, fun v x w' σ' z' b' l r q => hk.rt v x w' σ' z' b' (l3.trans l) r q,
        fun w' σ' z' b' l q => hk.nx w' σ' z' b' (l3.trans l) q, fun w' σ' z' b' l ⟨n', hn, q⟩ => ⟨n', hn, w', z', b', l3.trans l, rfl, q⟩⟩
    | false =>
      show D.nx σ1 w2.H
      exact hk.nx w2 σ1 z2 b2 (l1.trans l2) (hp.2 rfl)⟩
end

/-! ### targets -/
def GD (K : PySem.W.Frag) (vs : List Nat) (g : TG) (y : Sl) (z : Z) (Q : Z → Prop) : Prop := ∀ c w σ v (k : St → Hp → Prop), B K c w σ z → Vl K w v y → (∀ w' σ' z', B K c w' σ' z' → w.Le w' → wipe σ' vs = wipe σ vs → Q z' → k σ' w'.H) → g v σ w.H k
theorem wipe_set : ∀ (vs : List Nat) (σ : St) (i : Nat) (o : Option V), i ∈ vs → wipe (σ.set i o) vs = wipe σ vs
  | v :: vs, σ, i, o, h => by
    show (wipe (σ.set i o) vs).set v none = (wipe σ vs).set v none
    by_cases hi : i ∈ vs
    · rw [wipe_set vs σ i o hi]
    · have hv : i = v := by
        rcases List.mem_cons.mp h with h | h
        · exact h
        · exact absurd h hi
      subst hv
      have e : ∀ (us : List Nat) (τ : St), wipe (τ.set i o) us = (wipe τ us).set i o ∨ wipe (τ.set i o) us = wipe τ us := fun us => by
        induction us with
        | nil => exact fun τ => .inl rfl
        | cons u us ih =>
          intro τ
          show (wipe (τ.set i o) us).set u none = _ ∨ (wipe (τ.set i o) us).set u none = _
          rcases ih τ with q | q
          · rw [q]
            by_cases hu : i = u
            · subst hu
              right
              show _ = (wipe τ us).set i none
              rw [List.set_set]
            · left
              show _ = ((wipe τ us).set u none).set i o
              rw [List.set_comm _ _ hu]
          · right
            rw [q]
            rfl
      rcases e vs σ with q | q
      · rw [q, List.set_set]
      · rw [q]
theorem gd_name {K : PySem.W.Frag} {vs : List Nat} {i : Nat} {y : Sl} {z : Z} {Q : Z → Prop} (hi : i ∈ vs) (h : Q ⟨z.sl.set i y, z.ob⟩) : GD K vs (gName i) y z Q := fun c w σ v k bb r hk => hk w _ _ (bb.setSl r) (.refl w) (wipe_set vs σ i _ hi) h
/-- several names -/
def gNames : List Nat → TGs
  | [] => gNil
  | i :: is => gCons (gName i) (gNames is)
def setSls (sl : List Sl) : List Nat → List PyData → List Sl
  | i :: is, d :: ds => setSls (sl.set i (.sh d)) is ds
  | _, _ => sl
theorem gds_names {K : PySem.W.Frag} {vs : List Nat} {Q : Z → Prop} : ∀ {is : List Nat} {ds : List PyData} {z : Z}, (∀ i ∈ is, i ∈ vs) → ds.length = is.length → Q ⟨setSls z.sl is ds, z.ob⟩ →
    ∀ c w σ us (k : St → Hp → Prop), B K c w σ z → DqAll K w.S us ds → (∀ σ' z', B K c w σ' z' → wipe σ' vs = wipe σ vs → Q z' → k σ' w.H) → gNames is us σ w.H k
  | [], [], z, hv, hl, h, c, w, σ, us, k, bb, r, hk => by
    cases r
    exact ⟨rfl, hk σ z bb rfl h⟩
  | i :: is, d :: ds, z, hv, hl, h, c, w, σ, us, k, bb, r, hk => by
    cases r with
    | cons r rs =>
      refine ⟨_, _, rfl, ?_⟩
      have bb2 := bb.setSl (i := i) (vsh r)
      exact gds_names (z := ⟨z.sl.set i (.sh d), z.ob⟩) (fun j hj => hv j (List.mem_cons_of_mem _ hj)) (by simpa using hl) h c w _ _ k bb2 rs fun σ' z' b' e q => hk σ' z' b' (e.trans (wipe_set vs σ i _ (hv i List.mem_cons_self))) q
theorem Dp_tupI {K : PySem.W.Frag} {H : Hp} {v : V} {ds : List PyData} (h : Dq K H v (.tuple ds)) : ∃ a xs, v = .ref a ∧ SqT K H a xs ∧ DqAll K H xs ds := by
  cases h with
  | tup h hs => exact ⟨_, _, rfl, h.sq, hs⟩
theorem Dp_tupP {K : PySem.W.Frag} {H : Hp} {v : V} {ds : List PyData} (h : Dq K H v (.tuple ds)) : ∃ a xs, v = .ref a ∧ PlT K H a xs ∧ DqAll K H xs ds := by
  cases h with
  | tup h hs => exact ⟨_, _, rfl, h, hs⟩
theorem Dp_lstI {K : PySem.W.Frag} {H : Hp} {v : V} {ds : List PyData} (h : Dq K H v (.list ds)) : ∃ a xs, v = .ref a ∧ Rd H a (.lst xs) ∧ DqAll K H xs ds := by
  cases h with
  | lst h hs => exact ⟨_, _, rfl, h, hs⟩
theorem DpAll_len {K : PySem.W.Frag} {H : Hp} : ∀ {vs : List V} {ds : List PyData}, DqAll K H vs ds → vs.length = ds.length
  | _, _, .nil => rfl
  | _, _, .cons _ t => by simp [DpAll_len t]
theorem gd_tup {K : PySem.W.Frag} {vs is : List Nat} {n : Nat} {y : Sl} {ds : List PyData} {z : Z} {Q : Z → Prop} (hy : y = .sh (.tuple ds)) (hv : ∀ i ∈ is, i ∈ vs) (hl : ds.length = is.length) (hn : is.length = n) (h : Q ⟨setSls z.sl is ds, z.ob⟩) : GD K vs (gTup K n (gNames is)) y z Q := by
  subst hy
  intro c w σ v k bb r hk
  obtain ⟨a, xs, rfl, hq, hs⟩ := Dp_tupI r
  exact ⟨a, xs, rfl, Same.tup bb.same hq, by rw [DpAll_len hs, hl, hn], gds_names hv hl h c w σ xs k bb hs fun σ' z' b' e q => hk w σ' z' b' (.refl w) e q⟩

theorem gd_tp {K : PySem.W.Frag} {vs is : List Nat} {n : Nat} {y : Sl} {ds : List PyData} {z : Z} {Q : Z → Prop} (hy : y = .tp ds) (hv : ∀ i ∈ is, i ∈ vs) (hl : ds.length = is.length) (hn : is.length = n) (h : Q ⟨setSls z.sl is ds, z.ob⟩) : GD K vs (gTup K n (gNames is)) y z Q := by
  subst hy
  intro c w σ v k bb r hk
  obtain ⟨a, xs, rfl, hq, hs⟩ := r
  exact ⟨a, xs, rfl, Same.tup bb.same hq, by rw [DpAll_len hs, hl, hn], gds_names hv hl h c w σ xs k bb hs fun σ' z' b' e q => hk w σ' z' b' (.refl w) e q⟩
/-! ### what is walked -/
structure DW (K : PySem.W.Frag) (c : Ct) (w0 : Wd) (J : It) (G : Z → Prop) (ys : List Sl) : Prop where
  goes : ∀ (i : Nat) (c' : Ct) (w : Wd) (σ : St) (z : Z), i < ys.length → B K c' w σ z → w0.Le w → G z → J.go i w.H
  stops : ∀ (c' : Ct) (w : Wd) (σ : St) (z : Z), B K c' w σ z → w0.Le w → G z → J.stop ys.length w.H
  yields : ∀ (i : Nat) (c' : Ct) (w : Wd) (σ : St) (z : Z) (x : V) (H' : Hp) (y : Sl), ys[i]? = some y → B K c' w σ z → w0.Le w → G z → J.yld i w.H x H' → ∃ w', w'.H = H' ∧ B K c' w' σ z ∧ w.Le w' ∧ Vl K w' x y
def tI (X : Cy) (tg iter : Expr) : TI := fun σ H R => ∀ (pins : List (Addr × Obj)) (s : Shared), Inv X pins σ H s →
    wpAny (model X.prog X.w) X.A (eval iter X.env) (fun v s1 => wpAny (model X.prog X.w) X.A (pyIter v) (PIE X pins σ tg R) X.xe s1) X.xe s
theorem piB {X : Cy} {tg iter : Expr} : PI X tg iter (tI X tg iter) := ⟨fun pins s _ _ _ I h => h pins s I⟩
theorem tI_of {X : Cy} {tg iter : Expr} {t : TI} {σ : St} {H : Hp} {R : It → Hp → Prop} (p : PI X tg iter t) (h : t σ H R) : tI X tg iter σ H R := fun pins s I => p.run pins s σ H R I h
def WI (X : Cy) (tg iter : Expr) (z : Z) (R : List Sl → (Z → Prop) → Z → Prop) : Prop := ∀ (c : CtX X) w σ (k : It → Hp → Prop), B X.K c w σ z →
  (∀ J ys G w1 z1, B X.K c w1 σ z1 → w.Le w1 → DW X.K c w1 J G ys → R ys G z1 → k J w1.H) → tI X tg iter σ w.H k
section
variable {X : Cy} {tg iter e : Expr} {z : Z} {pos : Pos} {R : List Sl → (Z → Prop) → Z → Prop}
/-- a list: data that stays | an object -/
inductive LstAt (z : Z) : Sl → List Sl → (Z → Prop) → Prop
  | sh (ds : List PyData) : LstAt z (.sh (.list ds)) (ds.map .sh) (fun _ => True)
  | ob (i : Nat) (xs : List Sl) : z.ob[i]? = some (.lst xs) → LstAt z (.ob i) xs (fun z' => z'.ob[i]? = some (.lst xs))
theorem wi_list (h : WE X iter z fun x z1 => ∃ ys G, LstAt z1 x ys G ∧ R ys G z1) : WI X tg iter z R := fun c w σ k bb hk =>
  tI_of (pi_list peB) (h c w σ _ bb fun v x w1 z1 b1 l1 r1 ⟨ys, G, hL, hR⟩ => by
    cases hL with
    | sh ds =>
      obtain ⟨a, xs, rfl, hq, hs⟩ := Dp_lstI r1
      have hlen : xs.length = (ds.map Sl.sh).length := by rw [List.length_map, DpAll_len hs]
      refine ⟨a, rfl, ⟨xs, b1.same.seq (.inl hq)⟩, hk (Itl X.K a) _ _ w1 z1 b1 l1 ⟨fun i c' w2 σ2 z2 hi b2 l2 _ => ?_, fun c' w2 σ2 z2 b2 l2 _ => ?_, fun i c' w2 σ2 z2 x H' y hy b2 l2 _ ⟨e, hx⟩ => ?_⟩ hR⟩
      · rw [← hlen] at hi
        exact ⟨xs, xs[i], b2.same.seq (l2.st.seq (.inl hq)), List.getElem?_eq_getElem hi⟩
      · exact ⟨xs, b2.same.seq (l2.st.seq (.inl hq)), by rw [hlen]; exact Nat.le_refl _⟩
      · obtain ⟨v, e1, q1⟩ := paired_get (dp_allSh (w := w1) hs) hy
        have e2 := hx xs (b2.same.seq (l2.st.seq (.inl hq)))
        rw [e1] at e2
        cases e2
        exact ⟨w2, e.symm, b2, .refl w2, q1.mono l2⟩
    | ob i xs hi =>
      obtain ⟨a, ha, rfl⟩ := r1
      obtain ⟨_, us, hu, hp⟩ := b1.ob i _ a hi ha
      refine ⟨a, rfl, ⟨us, .inl (.inl hu)⟩, hk (Itl X.K a) _ _ w1 z1 b1 l1 ⟨fun j c' w2 σ2 z2 hj b2 l2 hG => ?_, fun c' w2 σ2 z2 b2 l2 hG => ?_, fun j c' w2 σ2 z2 x H' y hy b2 l2 hG ⟨e, hx⟩ => ?_⟩ hR⟩
      · obtain ⟨_, us2, hu2, hp2⟩ := b2.ob i _ a hG (l2.rho i a ha)
        rw [← hp2.length] at hj
        exact ⟨us2, us2[j], .inl (.inl hu2), List.getElem?_eq_getElem hj⟩
      · obtain ⟨_, us2, hu2, hp2⟩ := b2.ob i _ a hG (l2.rho i a ha)
        exact ⟨us2, .inl (.inl hu2), by rw [hp2.length]; exact Nat.le_refl _⟩
      · obtain ⟨_, us2, hu2, hp2⟩ := b2.ob i _ a hG (l2.rho i a ha)
        obtain ⟨v, e1, q1⟩ := paired_get hp2 hy
        have e2 := hx us2 (.inl (.inl hu2))
        rw [e1] at e2
        cases e2
        exact ⟨w2, e.symm, b2, .refl w2, q1⟩)
theorem wi_tup (h : WE X iter z fun x z1 => ∃ ds, x = .sh (.tuple ds) ∧ R (ds.map .sh) (fun _ => True) z1) : WI X tg iter z R := fun c w σ k bb hk =>
  tI_of (pi_tup peB) (h c w σ _ bb fun v x w1 z1 b1 l1 r1 ⟨ds, hL, hR⟩ => by
    subst hL
    obtain ⟨a, xs, rfl, hq, hs⟩ := Dp_tupI r1
    have hlen : xs.length = (ds.map Sl.sh).length := by rw [List.length_map, DpAll_len hs]
    refine ⟨a, rfl, ⟨xs, Same.tup b1.same hq⟩, hk (Itt X.K a) _ _ w1 z1 b1 l1 ⟨fun i c' w2 σ2 z2 hi b2 l2 _ => ?_, fun c' w2 σ2 z2 b2 l2 _ => ?_, fun i c' w2 σ2 z2 x H' y hy b2 l2 _ ⟨e, hx⟩ => ?_⟩ hR⟩
    · rw [← hlen] at hi
      exact ⟨xs, xs[i], Same.tup b2.same (Same.tup l2.st hq), List.getElem?_eq_getElem hi⟩
    · exact ⟨xs, Same.tup b2.same (Same.tup l2.st hq), by rw [hlen]; exact Nat.le_refl _⟩
    · obtain ⟨v, e1, q1⟩ := paired_get (dp_allSh (w := w1) hs) hy
      have e2 := hx xs (Same.tup b2.same (Same.tup l2.st hq))
      rw [e1] at e2
      cases e2
      exact ⟨w2, e.symm, b2, .refl w2, q1.mono l2⟩)
def rngL (lo : Int) (n : Nat) : List Sl := (List.range n).map fun (k : Nat) => .sh (.int (lo + (k : Int)))
theorem dw_rng {K : PySem.W.Frag} {c : Ct} {w : Wd} {lo : Int} {n : Nat} : DW K c w (Itr lo n) (fun _ => True) (rngL lo n) := by
  have hl : (rngL lo n).length = n := by simp [rngL]
  refine ⟨fun i c' w2 σ2 z2 hi b2 l2 _ => ?_, fun c' w2 σ2 z2 b2 l2 _ => ?_, fun i c' w2 σ2 z2 x H' y hy b2 l2 _ ⟨e, hx⟩ => ?_⟩
  · rw [hl] at hi
    exact hi
  · rw [hl]
    exact Nat.le_refl _
  · subst hx
    have hi : i < n := by
      have := (List.getElem?_eq_some_iff.mp hy).1
      rw [hl] at this
      exact this
    unfold rngL at hy
    rw [List.getElem?_map, List.getElem?_range hi] at hy
    cases hy
    exact ⟨w2, e.symm, b2, .refl w2, vI _⟩
theorem wi_rng1 {p : Pos} (hg : Gl X "range") (hm : X.mg "range" = none) (h : WE X e z fun x z1 => ∃ n : Int, x = .sh (.int n) ∧ -(2 ^ 62) ≤ n ∧ n < 2 ^ 62 ∧ R (rngL 0 n.toNat) (fun _ => True) z1) (hs : starEach [e] X.env = [(false, eval e X.env)] := by rfl) :
    WI X tg (.Call (.Name "range" p) [e] [] pos) z R := fun c w σ k bb hk =>
  tI_of (pi_range1 hg hm (pa_cons peB pa_nil hs) hs) (h c w σ _ bb fun v x w1 z1 b1 l1 r1 ⟨n, e, h1, h2, hR⟩ => by
    subst e
    cases Dp_int r1
    exact ⟨n, rfl, h1, h2, hk _ _ _ w1 z1 b1 l1 dw_rng hR⟩)
theorem wi_rng2 {a b : Expr} {p : Pos} (hg : Gl X "range") (hm : X.mg "range" = none) (h : WE X a z fun x z1 => WE X b z1 fun y z2 => ∃ i j : Int, x = .sh (.int i) ∧ y = .sh (.int j) ∧ (-(2 ^ 62) ≤ i ∧ i < 2 ^ 62 ∧ -(2 ^ 62) ≤ j ∧ j < 2 ^ 62) ∧ R (rngL i (j - i).toNat) (fun _ => True) z2)
    (hs : starEach [a, b] X.env = [(false, eval a X.env), (false, eval b X.env)] := by rfl) (hs2 : starEach [b] X.env = [(false, eval b X.env)] := by rfl) :
    WI X tg (.Call (.Name "range" p) [a, b] [] pos) z R := fun c w σ k bb hk =>
  tI_of (pi_range2 hg hm (pa_cons peB (pa_cons peB pa_nil hs2) (by rw [hs, hs2])) hs hs2) (h c w σ _ bb fun v x w1 z1 b1 l1 r1 h1 => h1 c w1 σ _ b1 fun u y w2 z2 b2 l2 r2 ⟨i, j, e1, e2, hb, hR⟩ => by
    subst e1 e2
    cases Dp_int r1
    cases Dp_int r2
    exact ⟨i, j, rfl, hb, hk _ _ _ w2 z2 b2 (l1.trans l2) dw_rng hR⟩)
end

/-! ### for -/
section
variable {X : Cy} {tg iter e : Expr} {z : Z} {pos : Pos} {Q : Out → Prop} {body : List Stmt}
theorem w1_for {g : TG} {vs : List Nat} (hg : PG X tg g) (h : WI X tg iter z fun ys G z1 => ∃ I : Nat → Z → Prop, I 0 z1 ∧ (∀ i z2, i ≤ ys.length → I i z2 → G z2) ∧
      (∀ i y z2, ys[i]? = some y → I i z2 → GD X.K vs g y z2 fun z3 => WS X body z3 (LoopQ (I (i + 1)) Q)) ∧ ∀ z2, I ys.length z2 → Q (.nx z2))
    (hc : X.calm = true := by rfl) (hp : PassesOwn (model X.prog X.w) X.A X.env X.xe := by exact PassesOwn.never) (hs : ∀ x, foldedSetIterable iter X.env x = pure x := by intro _; rfl) : W1 X (.For tg iter body [] pos) z Q := fun c w σ D bb hk =>
  tS_of (ps_for hp hc piB hg pssB hs) (h c w σ _ bb fun J ys G w1 z1 b1 l1 dw ⟨I, h0, hG, hs, hd⟩ => by
    refine ⟨fun i m σ' H' => m = ys.length - i ∧ i ≤ ys.length ∧ ∃ w' z', B X.K c w' σ' z' ∧ w1.Le w' ∧ w'.H = H' ∧ I i z', ⟨ys.length, by simp, Nat.zero_le _, w1, z1, b1, .refl w1, rfl, h0⟩, ?_⟩
    rintro i m σ2 H2 ⟨rfl, hi, w2, z2, b2, l2, rfl, hI⟩
    by_cases hlt : i < ys.length
    · refine .inr ⟨dw.goes i c w2 σ2 z2 hlt b2 l2 (hG i z2 hi hI), fun σ' H' => ∃ w' z', B X.K c w' σ' z' ∧ w1.Le w' ∧ w'.H = H' ∧ I (i + 1) z', fun σ' H' q => ⟨ys.length - (i + 1), by omega, rfl, hlt, q⟩, fun x H' y => ?_⟩
      have hy : ys[i]? = some ys[i] := List.getElem?_eq_getElem hlt
      obtain ⟨w3, rfl, b3, l3, r3⟩ := dw.yields i c w2 σ2 z2 x H' ys[i] hy b2 l2 (hG i z2 hi hI) y
      refine hs i ys[i] z2 hy hI c w3 σ2 x _ b3 r3 fun w4 σ4 z4 b4 l4 _ hw => ?_
      have l5 : w1.Le w4 := (l2.trans l3).trans l4
      exact hw c w4 σ4 _ b4 ⟨fun w' σ' z' b' l q => ⟨w', z', b', l5.trans l, rfl, q⟩, fun v x w' σ' z' b' l r q => hk.rt v x w' σ' z' b' ((l1.trans l5).trans l) r q,
        fun w' σ' z' b' l q => hk.nx w' σ' z' b' ((l1.trans l5).trans l) q, fun w' σ' z' b' l q => ⟨w', z', b', l5.trans l, rfl, q⟩⟩
    · have e : i = ys.length := by omega
      subst e
      exact .inl ⟨dw.stops c w2 σ2 z2 b2 l2 (hG _ z2 hi hI), hk.nx w2 σ2 z2 b2 (l1.trans l2) (hd z2 hI)⟩)
end
end Dl

namespace Dl
open PySem PySem.Spec L2
open PyProof.Rows hiding St

/-! ### defs called where no repr is under way -/
structure RoomG (k : Nat) (A : Around) : Prop where
  r : Room k A
  g : A.guards = some []
theorem RoomG.mono {j k : Nat} {A : Around} (hr : RoomG k A) (h : j ≤ k) : RoomG j A := ⟨hr.r.mono h, hr.g⟩
theorem RoomG.deeper {k : Nat} {A : Around} (hr : RoomG (k + 1) A) (env : Env) : RoomG k (A.deeper env) := ⟨hr.r.deeper env, hr.g⟩
structure FnG (P : Program) (w : World) (K : PySem.W.Frag) (mg : Str → Option Value) (base : Heap) (CX : CXT) (k : Nat) (f : Addr) (fd : FuncData) (ps : List Str) (sp : Sp) : Prop where
  ln : ∀ vs H Q E, sp vs H Q E → vs.length = ps.length
  go : ∀ (A : Around) (outer : List Env) (s : Shared) (H : Hp) (args : Args) (us : List Value) (vs : List V) (Q : VK) (E : XK), RoomG k A → Env0 P w K mg base A outer s H → BindsTo s fd args (ps.zip us) → Vals vs us → sp vs H Q E → codeAny (model P w) A (.call (.ref f) args) (CR CX outer P w H s Q E) s
section
variable {P : Program} {w : World} {K : PySem.W.Frag} {mg : Str → Option Value} {base : Heap} {CX : CXT} {j k : Nat} {f : Addr} {fd : FuncData} {ps N : List Str} {sp sp' : Sp}
theorem FnG.mono (F : FnG P w K mg base CX j f fd ps sp) (h : j ≤ k) : FnG P w K mg base CX k f fd ps sp := ⟨F.ln, fun A o s H as us vs Q E hr => F.go A o s H as us vs Q E (hr.mono h)⟩
theorem FnG.imp (F : FnG P w K mg base CX k f fd ps sp) (h : ∀ vs H Q E, sp' vs H Q E → sp vs H Q E) : FnG P w K mg base CX k f fd ps sp' := ⟨fun vs H Q E q => F.ln vs H Q E (h vs H Q E q), fun A o s H as us vs Q E hr e b v q => F.go A o s H as us vs Q E hr e b v (h vs H Q E q)⟩
theorem fnG_of {name qual : Str} {params : Arguments} {body : List Stmt} {scope : Scope} {dV kV doc pm cdv ct oc : Value} {an od : Option Addr} {osl : Array (Option Value)} (lk : K.lookup f = some ⟨oc, od, .func (PySem.W.fnOf name qual params body scope dV kV doc pm an cdv ct), osl⟩) (hcd : PySem.W.codeIn K cdv qual = true) (S : FnScope N ps scope)
    (ln : ∀ vs H Q E, sp vs H Q E → vs.length = ps.length)
    (hb : ∀ (A : Around) (outer : List Env) (s : Shared) (H : Hp) (vs : List V) (Q : VK) (E : XK), RoomG k (A.deeper (envOfC qual scope s.heap.objs.size f cdv)) → sp vs H Q E → ∃ t, PSs (cxOf CX P w K mg base N qual scope f cdv A outer s H E) body t ∧ t { nx := fun _ H' => Q .non H', rt := Q } (start N vs) H) :
    FnG P w K mg base CX (k + 1) f (PySem.W.fnOf name qual params body scope dV kV doc pm an cdv ct) ps sp := by
  refine ⟨ln, fun A outer s H as us vs Q E rm env0 bnd rel q0 => ?_⟩
  have keep0 : ∀ b o, base.get? b = some o → s.heap.get? b = some o := fun b o e => (env0.bs b o e).1
  have kin := env0.mod.kin.keeps keep0
  have nolim := env0.mod.nolimit.keeps keep0
  have kinds : ∀ y ∈ ps.zip us, scope.names.lookup y.1 = some .local ∨ (scope.names.lookup y.1 = some .cell ∧ ((cellsFrom (s.heap.objs.size + 1) scope.names []).lookup y.1).isSome = true) := by
    rintro ⟨n, v⟩ hy
    exact (S.par n (List.of_mem_zip hy).1).imp (fun q => q) fun q => ⟨q, PySem.W.cellsFrom_some _ _ _ (.inl q)⟩
  refine codeAny_call_function rm.r.depth (kin _ _ lk) rfl S.co S.gen rfl (PySem.W.codeRec_of kin hcd) (bnd _ _ _ _ ?_)
  refine wpAny_newFunctionEnv_cells S.kind kinds fun e0 he0 s1 st => ?_
  subst he0
  refine ⟨nolim.keeps st.toInCall.keep, codeAny_func ?_⟩
  obtain ⟨t, pt, tq⟩ := hb A outer s H vs Q E (rm.deeper _) q0
  refine wpAny_mono (pt.run [] s1 (start N vs) H _ (inv_start S rm.r.hd env0 (ln _ _ _ _ q0) rel st) tq) (fun fl s' hs => ?_) fun _ _ hs => hs
  match fl, hs with
  | .ret u, ⟨v, σ', H', J, rv, q⟩ => exact ⟨v, H', J.os, J.bare, J.base, J.hok, rv, q⟩
  | .next, ⟨σ', H', J, q⟩ => exact ⟨V.non, H', J.os, J.bare, J.base, J.hok, rfl, q⟩
  | .brk, ⟨_, _, _, q⟩ => exact q.elim
  | .cont, ⟨_, _, _, q⟩ => exact q.elim
end
section
variable {X : Cy} {CX : CXT} {k : Nat} {f : Addr} {fd : FuncData} {ps : List Str} {sp : Sp} {E : XK} {x : Str} {p pos : Pos} {e : Expr} {es : List Expr} {t : TA}
theorem pe_callG (F : FnG X.prog X.w X.K X.mg X.base CX k f fd ps sp) (rm : RoomG k X.A) (hg : Gl X x) (hm : X.mg x = some (.ref f)) (hk : PySem.W.keepIn X.K (.ref f) = true) (hb : Binds X.K fd ps []) (hx : Passes CX X E)
    (ha : PA X (e :: es) t) (hdb : (x == ("__debug__" : Str)) = false) (he : starEach (e :: es) X.env = (false, eval e X.env) :: starEach es X.env) (hpl : (backTo pos (starEach es X.env)).any (·.1) = false) : PE X (.Call (.Name x p) (e :: es) [] pos) (tCall sp [] E t) := by
  refine ⟨fun pins s σ H Q I h => wpAny_Call_Name_kw (ld_glob I hg hm ?_ hdb)⟩
  refine PySem.W.callWith_K (h₀ := X.base) I.ok.mod.kin hk (thn (ha.run pos pins s σ H _ I h) fun us s1 ⟨vs, H1, J, rel, q⟩ => ⟨J.kIn, ?_⟩) he hpl
  have rel2 : Vals (vs ++ []) (us ++ []) := rel.append .nil
  have ln : (us ++ ([] : List Value)).length = ps.length := rel2.length.symm.trans (F.ln _ _ _ _ q)
  refine wpAny_call (codeAny_mono (F.go X.A X.stack s1 H1 ⟨us, []⟩ (us ++ []) (vs ++ []) Q E rm J.env0 (hb s1 us J.kIn ln) rel2 q) fun r s' hq => ?_)
  match r, hq with
  | .error e, hq => exact hx pins σ H1 s1 e s' J hq
  | .ok (.ret u), hq => exact J.after hq
  | .ok .next, hq => exact hq.elim
  | .ok .brk, hq => exact hq.elim
  | .ok .cont, hq => exact hq.elim
end
end Dl

namespace Dl
open PySem PySem.Spec L2
open PyProof.Rows hiding St

/-! ### defs -/
abbrev Rl := List Sl → List OO → (Sl → List OO → Prop) → Prop
def spD (K : PySem.W.Frag) (n : Nat) (R : Rl) : Sp := fun vs H Q _ => vs.length = n ∧ ∃ (w : Wd) (xs : List Sl) (om : List OO) (Qd : Sl → List OO → Prop), w.H = H ∧ B K w.ct w [] ⟨[], om⟩ ∧ Paired (Vl K w) vs xs ∧ R xs om Qd ∧
  ∀ x om' v w', Qd x om' → B K w.ct w' [] ⟨[], om'⟩ → Vl K w' v x → Q v w'.H
def rlS (n : Nat) : Sl → Bool
  | .ob j => decide (j < n)
  | _ => true
def rlO (n : Nat) : OO → Bool
  | .gone => true
  | .lst xs => xs.all (rlS n)
  | .dk _ xs => xs.all (rlS n)
  | .dt _ _ xs => xs.all (rlS n)
  | .ins _ _ xs => xs.all (rlS n)
/-- objects kept, named anew: the k-th is what was the is[k]-th -/
def RS (is : List Nat) : Sl → Sl → Prop
  | .ob j, .ob k => is[k]? = some j
  | .sh d, .sh d' => d = d'
  | .tp d, .tp d' => d = d'
  | .ex C d, .ex C' d' => C = C' ∧ d = d'
  | .no, .no => True
  | _, _ => False
def RO (is : List Nat) : OO → OO → Prop
  | .lst xs, .lst ys => Paired (RS is) xs ys
  | .dk ks xs, .dk ks' ys => ks = ks' ∧ Paired (RS is) xs ys
  | .dt hf ks xs, .dt hf' ks' ys => hf = hf' ∧ ks = ks' ∧ Paired (RS is) xs ys
  | .ins C ns xs, .ins C' ns' ys => C = C' ∧ ns = ns' ∧ Paired (RS is) xs ys
  | _, .gone => True
  | _, _ => False
inductive Ext (n : Nat) : Sl → List OO → Sl → List OO → Prop
  | sh (d : PyData) (ob : List OO) : (ob.take n).all (rlO n) = true → Ext n (.sh d) ob (.sh d) (ob.take n)
  | old (j : Nat) (ob : List OO) : j < n → (ob.take n).all (rlO n) = true → Ext n (.ob j) ob (.ob j) (ob.take n)
  | new (k : Nat) (xs : List Sl) (ob : List OO) : n ≤ k → ob[k]? = some (.lst xs) → (ob.take n).all (rlO n) = true → xs.all (rlS n) = true → Ext n (.ob k) ob (.ob n) (ob.take n ++ [.lst xs])
  | frz (k : Nat) (xs : List Sl) (ds : List PyData) (ob : List OO) : n ≤ k → ob[k]? = some (.lst xs) → (ob.take n).all (rlO n) = true → allSh xs = some ds → Ext n (.ob k) ob (.sh (.list ds)) (ob.take n)
  | sel (is : List Nat) (x x' : Sl) (ob ob' : List OO) : is.Nodup → (∀ i, i < n → is[i]? = some i) → Paired (fun o2 j => ∃ o, ob[j]? = some o ∧ RO is o o2) ob' is → RS is x x' → Ext n x ob x' ob'
  | all (x : Sl) (ob : List OO) : Ext n x ob x ob
def Fin (n : Nat) (Qd : Sl → List OO → Prop) : Out → Prop
  | .nx z => ∃ x' om', Ext n (.sh .none) z.ob x' om' ∧ Qd x' om'
  | .rt x z => ∃ x' om', Ext n x z.ob x' om' ∧ Qd x' om'
  | _ => False
section
variable {K : PySem.W.Frag} {c : Ct} {w : Wd} {σ : St} {z : Z}
theorem Vl.cut {n : Nat} {S H : Hp} {v : V} : ∀ {x : Sl}, rlS n x = true → Vl K w v x → S = w.S → Vl K ⟨w.rho.take n, S, H⟩ v x
  | .no, _, h, _ => h
  | .sh _, _, h, e => by
    subst e
    exact h
  | .ob j, r, ⟨p, h, e⟩, _ => ⟨p, by
    show (w.rho.take n)[j]? = some p
    rw [List.getElem?_take_of_lt (of_decide_eq_true r)]
    exact h, e⟩
  | .tp _, _, h, e => by
    subst e
    exact h
  | .ex _ _, _, h, e => by
    subst e
    exact h
theorem Vls.cut {n : Nat} {S H : Hp} : ∀ {vs : List V} {xs : List Sl}, xs.all (rlS n) = true → Paired (Vl K w) vs xs → S = w.S → Paired (Vl K ⟨w.rho.take n, S, H⟩) vs xs
  | _, _, _, .nil, _ => .nil
  | _, _, h, .cons q t, e => by
    rw [List.all_cons, Bool.and_eq_true] at h
    exact .cons (Vl.cut h.1 q e) (Vls.cut h.2 t e)
theorem Vds.cut {n : Nat} {S H : Hp} : ∀ {vs : List (NestedKey × Addr × Value)} {xs : List Sl}, xs.all (rlS n) = true → Paired (VdR K w) vs xs → S = w.S → Paired (VdR K ⟨w.rho.take n, S, H⟩) vs xs
  | _, _, _, .nil, _ => .nil
  | _, _, h, .cons ⟨q1, q2, v, r, q⟩ t, e => by
    rw [List.all_cons, Bool.and_eq_true] at h
    exact .cons ⟨by rw [e]; exact q1, q2, v, r, Vl.cut h.1 q e⟩ (Vds.cut h.2 t e)
theorem B.cut (b : B K c w σ z) {n : Nat} (hn : c.rho.length = n) (hr : (z.ob.take n).all (rlO n) = true) : B K c ⟨w.rho.take n, w.S, w.H⟩ [] ⟨[], z.ob.take n⟩ := by
  refine ⟨b.same, ?_, b.nd.sublist (List.take_sublist _ _), fun p hp => b.tr p (List.mem_of_mem_take hp), .nil, fun i o p h1 h2 => ?_, fun i p h => ?_, b.fr, b.nw, b.st, fun i p hi h => ?_⟩
  · show (w.rho.take n).length = (z.ob.take n).length
    rw [List.length_take, List.length_take, b.len]
  · have h1 : (z.ob.take n)[i]? = some o := h1
    have h2 : (w.rho.take n)[i]? = some p := h2
    have ho : rlO n o = true := List.all_eq_true.mp hr o (List.mem_of_getElem? h1)
    have hi : i < n := by
      have := (List.getElem?_eq_some_iff.mp h1).1
      rw [List.length_take] at this
      omega
    rw [List.getElem?_take_of_lt hi] at h1 h2
    have q := b.ob i o p h1 h2
    cases o with
    | gone => trivial
    | lst xs =>
      obtain ⟨hS, vs, hH, hv⟩ := q
      exact ⟨hS, vs, hH, Vls.cut ho hv rfl⟩
    | dk ks xs =>
      obtain ⟨hS, vs, hH, hv⟩ := q
      exact ⟨hS, vs, hH, Vls.cut ho hv rfl⟩
    | dt hf ks xs =>
      obtain ⟨hS, vs, hH, hk, hn, hv⟩ := q
      exact ⟨hS, vs, hH, hk, hn, Vds.cut ho hv rfl⟩
    | ins C ns xs =>
      obtain ⟨hS, hl, dx, vs, hH, hv⟩ := q
      exact ⟨hS, hl, dx, vs, hH, Vls.cut ho hv rfl⟩
  · show (w.rho.take n)[i]? = some p
    have : i < c.rho.length := (List.getElem?_eq_some_iff.mp h).1
    rw [List.getElem?_take_of_lt (by omega)]
    exact b.pre i p h
  · have h : (w.rho.take n)[i]? = some p := h
    have := (List.getElem?_eq_some_iff.mp h).1
    rw [List.length_take] at this
    omega
theorem Vl.sel {is : List Nat} {rho2 : List Addr} {S H : Hp} (hr : Paired (fun p j => w.rho[j]? = some p) rho2 is) {v : V} : ∀ {x x' : Sl}, RS is x x' → Vl K w v x → S = w.S → Vl K ⟨rho2, S, H⟩ v x' := by
  intro x x' r h e
  subst e
  cases x with
  | no => exact h.elim
  | sh d =>
    cases x' with
    | sh d' =>
      have r : d = d' := r
      subst r
      exact h
    | _ => exact r.elim
  | tp d =>
    cases x' with
    | tp d' =>
      have r : d = d' := r
      subst r
      exact h
    | _ => exact r.elim
  | ex C d =>
    cases x' with
    | ex C' d' =>
      have r : C = C' ∧ d = d' := r
      obtain ⟨rfl, rfl⟩ := r
      exact h
    | _ => exact r.elim
  | ob j =>
    cases x' with
    | ob k =>
      have r : is[k]? = some j := r
      obtain ⟨p, hp, rfl⟩ := h
      obtain ⟨q, hq, e⟩ := paired_get hr r
      rw [hp] at e
      cases e
      exact ⟨p, hq, rfl⟩
    | _ => exact r.elim
theorem Vls.sel {is : List Nat} {rho2 : List Addr} {S H : Hp} (hr : Paired (fun p j => w.rho[j]? = some p) rho2 is) : ∀ {vs : List V} {xs ys : List Sl}, Paired (RS is) xs ys → Paired (Vl K w) vs xs → S = w.S → Paired (Vl K ⟨rho2, S, H⟩) vs ys
  | _, _, _, .nil, .nil, _ => .nil
  | _, _, _, .cons r t, .cons q u, e => .cons (Vl.sel hr r q e) (Vls.sel hr t u e)
theorem Vds.sel {is : List Nat} {rho2 : List Addr} {S H : Hp} (hr : Paired (fun p j => w.rho[j]? = some p) rho2 is) : ∀ {vs : List (NestedKey × Addr × Value)} {xs ys : List Sl}, Paired (RS is) xs ys → Paired (VdR K w) vs xs → S = w.S → Paired (VdR K ⟨rho2, S, H⟩) vs ys
  | _, _, _, .nil, .nil, _ => .nil
  | _, _, _, .cons r t, .cons ⟨q1, q2, v, rv, q⟩ u, e => .cons ⟨by rw [e]; exact q1, q2, v, rv, Vl.sel hr r q e⟩ (Vds.sel hr t u e)
theorem paired_len {α β : Type} {F : α → β → Prop} : ∀ {l₁ : List α} {l₂ : List β}, Paired F l₁ l₂ → l₁.length = l₂.length
  | _, _, .nil => rfl
  | _, _, .cons _ t => by simp [paired_len t]
theorem Ob.sel {is : List Nat} {rho2 : List Addr} (hr : Paired (fun p j => w.rho[j]? = some p) rho2 is) {p : Addr} : ∀ {o o' : OO}, RO is o o' → Ob K w p o → Ob K ⟨rho2, w.S, w.H⟩ p o' := by
  intro o o' r h
  cases o' with
  | gone => trivial
  | lst ys =>
    cases o with
    | lst xs =>
      obtain ⟨hS, vs, hH, hv⟩ := h
      exact ⟨hS, vs, hH, Vls.sel hr r hv rfl⟩
    | _ => exact r.elim
  | dk ks' ys =>
    cases o with
    | dk ks xs =>
      obtain ⟨hS, vs, hH, hv⟩ := h
      obtain ⟨rfl, r⟩ := r
      exact ⟨hS, vs, hH, Vls.sel hr r hv rfl⟩
    | _ => exact r.elim
  | dt hf' ks' ys =>
    cases o with
    | dt hf ks xs =>
      obtain ⟨hS, vs, hH, hk, hn, hv⟩ := h
      obtain ⟨rfl, rfl, r⟩ := r
      exact ⟨hS, vs, hH, hk, hn, Vds.sel hr r hv rfl⟩
    | _ => exact r.elim
  | ins C' ns' ys =>
    cases o with
    | ins C ns xs =>
      obtain ⟨hS, hl, dx, vs, hH, hv⟩ := h
      obtain ⟨rfl, rfl, r⟩ := r
      exact ⟨hS, by rw [hl]; exact paired_len r, dx, vs, hH, Vls.sel hr r hv rfl⟩
    | _ => exact r.elim
theorem sel_rho {ob ob' : List OO} {is : List Nat} {F : OO → OO → Prop} {rho : List Addr} (hl : rho.length = ob.length) (ho : Paired (fun o2 j => ∃ o, ob[j]? = some o ∧ F o o2) ob' is) : ∃ rho2, Paired (fun p j => rho[j]? = some p) rho2 is := by
  induction ho with
  | nil => exact ⟨[], .nil⟩
  | @cons o2 j _ _ h _ ih =>
    obtain ⟨r2, ih⟩ := ih
    obtain ⟨o, e, _⟩ := h
    have hlt := (List.getElem?_eq_some_iff.mp e).1
    exact ⟨rho[j]'(by rw [hl]; exact hlt) :: r2, .cons (List.getElem?_eq_getElem (by rw [hl]; exact hlt)) ih⟩
theorem mem_paired {α β : Type} {F : α → β → Prop} : ∀ {l₁ : List α} {l₂ : List β} {a : α}, Paired F l₁ l₂ → a ∈ l₁ → ∃ b ∈ l₂, F a b
  | _, _, _, .nil, h => by cases h
  | _, _, a, .cons r t, h => by
    rcases List.mem_cons.mp h with h | h
    · subst h
      exact ⟨_, List.mem_cons_self, r⟩
    · obtain ⟨b, h1, h2⟩ := mem_paired t h
      exact ⟨b, List.mem_cons_of_mem _ h1, h2⟩
theorem nodup_paired {rho : List Addr} (nd : rho.Nodup) : ∀ {rho2 : List Addr} {is : List Nat}, Paired (fun p j => rho[j]? = some p) rho2 is → is.Nodup → rho2.Nodup
  | _, _, .nil, _ => List.nodup_nil
  | _, _, .cons r t, h => by
    rw [List.nodup_cons] at h ⊢
    refine ⟨fun hm => ?_, nodup_paired nd t h.2⟩
    obtain ⟨j, hj, e⟩ := mem_paired t hm
    have := nodup_ixA nd r e
    subst this
    exact h.1 hj
theorem B.sel (b : B K c w σ z) {is : List Nat} {ob' : List OO} (nd : is.Nodup) (hp : ∀ i, i < c.rho.length → is[i]? = some i) (ho : Paired (fun o2 j => ∃ o, z.ob[j]? = some o ∧ RO is o o2) ob' is) :
    ∃ rho2, Paired (fun p j => w.rho[j]? = some p) rho2 is ∧ B K c ⟨rho2, w.S, w.H⟩ [] ⟨[], ob'⟩ := by
  obtain ⟨rho2, hr⟩ := sel_rho b.len ho
  refine ⟨rho2, hr, b.same, ?_, nodup_paired b.nd hr nd, fun p h => ?_, .nil, fun i o2 p h1 h2 => ?_, fun i p h => ?_, b.fr, b.nw, b.st, fun i p hi h => ?_⟩
  · show rho2.length = ob'.length
    rw [paired_len hr, paired_len ho]
  · obtain ⟨j, _, e⟩ := mem_paired hr h
    exact b.tr p (List.mem_of_getElem? e)
  · have h1 : ob'[i]? = some o2 := h1
    have h2 : rho2[i]? = some p := h2
    obtain ⟨j, e1, e2⟩ := paired_get' hr h2
    obtain ⟨o3, e3, o, e4, ro⟩ := paired_get ho e1
    rw [h1] at e3
    cases e3
    exact Ob.sel hr ro (b.ob j o p e4 e2)
  · show rho2[i]? = some p
    obtain ⟨q, e1, e2⟩ := paired_get hr (hp i (List.getElem?_eq_some_iff.mp h).1)
    rw [b.pre i p h] at e2
    cases e2
    exact e1
  · have h : rho2[i]? = some p := h
    obtain ⟨j, e1, e2⟩ := paired_get' hr h
    refine b.nr j p ?_ e2
    refine Nat.not_lt.mp fun hlt => ?_
    have e3 := hp j hlt
    have h1 := (List.getElem?_eq_some_iff.mp e1)
    have h2 := (List.getElem?_eq_some_iff.mp e3)
    have : i = j := (List.getElem_inj nd).mp (h1.2.trans h2.2.symm)
    omega
theorem fin_okS {n : Nat} (hn : c.rho.length = n) {x x' : Sl} {om' : List OO} (h : Ext n x z.ob x' om') (b : B K c w σ z) {v : V} (r : Vl K w v x) {G : Prop} (hk : ∀ w', w'.H = w.H → B K c w' [] ⟨[], om'⟩ → Vl K w' v x' → Same w.S w'.S → G) : G := by
  obtain ⟨sl, ob⟩ := z
  have h : Ext n x ob x' om' := h
  cases h with
  | sh d _ hr => exact hk ⟨w.rho.take n, w.S, w.H⟩ rfl (b.cut hn hr) r (Same.refl _)
  | old j _ hj hr => exact hk ⟨w.rho.take n, w.S, w.H⟩ rfl (b.cut hn hr) (Vl.cut (x := .ob j) (decide_eq_true hj) r rfl) (Same.refl _)
  | new j xs _ hj ho hr hx =>
    obtain ⟨p, hp, rfl⟩ := r
    obtain ⟨hS, vs, hH, hv⟩ := b.ob j _ p ho hp
    have as : Aside c ⟨w.rho.take n, w.S, w.H⟩ p := ⟨fun hq => by
      obtain ⟨i, hi⟩ := List.getElem?_of_mem hq
      have hi : (w.rho.take n)[i]? = some p := hi
      have hlt : i < n := by
        have := (List.getElem?_eq_some_iff.mp hi).1
        rw [List.length_take] at this
        omega
      rw [List.getElem?_take_of_lt hlt] at hi
      have := nodup_ixA b.nd hi hp
      omega, hS, b.nr j p (by omega) hp⟩
    refine hk ⟨w.rho.take n ++ [p], w.S, w.H⟩ rfl ((b.cut hn hr).push as hH (Vls.cut hx hv rfl)) ⟨p, ?_, rfl⟩ (Same.refl _)
    have hl : (w.rho.take n).length = n := by
      have h1 := b.len
      have h2 := (List.getElem?_eq_some_iff.mp hp).1
      rw [List.length_take]
      omega
    show (w.rho.take n ++ [p])[n]? = some p
    rw [List.getElem?_append_right (by omega), hl, Nat.sub_self]
    rfl
  | frz j xs ds _ hj ho hr hx =>
    obtain ⟨p, hp, rfl⟩ := r
    obtain ⟨hS, vs, hH, hv⟩ := b.ob j _ p ho hp
    have as : Aside c ⟨w.rho.take n, w.S, w.H⟩ p := ⟨fun hq => by
      obtain ⟨i, hi⟩ := List.getElem?_of_mem hq
      have hi : (w.rho.take n)[i]? = some p := hi
      have hlt : i < n := by
        have := (List.getElem?_eq_some_iff.mp hi).1
        rw [List.length_take] at this
        omega
      rw [List.getElem?_take_of_lt hlt] at hi
      have := nodup_ixA b.nd hi hp
      omega, hS, b.nr j p (by omega) hp⟩
    refine hk ⟨w.rho.take n, upd w.S p (.lst vs), w.H⟩ rfl ((b.cut hn hr).stay as hH) ?_ (le_stay (w := w) hS).st
    exact Dq.lst (.inl upd_same) (DpAll_mono (le_stay (w := w) hS).st (allSh_dp hx hv))
  | sel is _ _ _ _ nd hp ho hx =>
    obtain ⟨rho2, hr, b2⟩ := b.sel nd (fun i hi => hp i (hn ▸ hi)) ho
    exact hk ⟨rho2, w.S, w.H⟩ rfl b2 (Vl.sel hr hx r rfl) (Same.refl _)
  | all _ _ => exact hk w rfl ⟨b.same, b.len, b.nd, b.tr, .nil, b.ob, b.pre, b.fr, b.nw, b.st, b.nr⟩ r (Same.refl _)
theorem fin_ok {n : Nat} (hn : c.rho.length = n) {x x' : Sl} {om' : List OO} (h : Ext n x z.ob x' om') (b : B K c w σ z) {v : V} (r : Vl K w v x) {k : VK} (hk : ∀ w', B K c w' [] ⟨[], om'⟩ → Vl K w' v x' → k v w'.H) : k v w.H := fin_okS hn h b r fun w' e b' r' _ => by
  rw [← e]
  exact hk w' b' r'
end
theorem paired_start {K : PySem.W.Frag} {w : Wd} {N : List Str} : ∀ {vs : List V} {xs : List Sl} (n : Nat), Paired (Vl K w) vs xs → Paired (Sv K w) (vs.map some ++ List.replicate n none) (xs ++ List.replicate n .no)
  | _, _, 0, .nil => .nil
  | _, _, n + 1, .nil => .cons (.inl rfl) (paired_start (N := N) n .nil)
  | _, _, n, .cons q t => .cons (.inr ⟨_, rfl, q⟩) (paired_start (N := N) n t)
section
variable {P : Program} {w : World} {K : PySem.W.Frag} {mg : Str → Option Value} {base : Heap}
theorem fn_ok {x qual : Str} {st : Stmt} {f : Addr} {fd : FuncData} {N ps : List Str} {k : Nat} {R : Rl} (F : Fun K x qual st f fd) (S : FnScope N ps (defScope st))
    (h : ∀ (cdv : Value) (A : Around) (outer : List Env) (s : Shared) (H : Hp) (E : XK), RoomG k (A.deeper (envOfC qual (defScope st) s.heap.objs.size f cdv)) → ∀ xs om Qd, xs.length = ps.length → R xs om Qd →
      WS ⟨(cxOf CX0 P w K mg base N qual (defScope st) f cdv A outer s H E).nox, fun _ _ _ => False, false⟩ (defBody st) ⟨xs ++ List.replicate (N.length - xs.length) .no, om⟩ (Fin om.length Qd)) : FnG P w K mg base CX0 (k + 1) f fd ps (spD K ps.length R) := by
  obtain ⟨_, _, _, _, _, _, cdv, _, _, rfl, lk, hcd⟩ := F.ex
  refine fnG_of lk hcd S (fun vs H Q E h => h.1) (fun A outer s H vs Q E hr hsp => ?_)
  obtain ⟨hl, w0, xs, om, Qd, rfl, b0, hv, hR, hq⟩ := hsp
  have hxl : xs.length = ps.length := by rw [← hv.length]; exact hl
  refine ⟨_, PSs.nox pssB, h cdv A outer s w0.H E hr xs om Qd hxl hR (CtX.of _ (fun _ _ _ h => h) w0.ct) w0 _ _ ?_ ⟨?_, ?_, ?_, ?_⟩⟩
  · have hp : Paired (Sv K w0) (L2.start N vs) (xs ++ List.replicate (N.length - xs.length) .no) := by
      unfold L2.start
      rw [← hv.length]
      exact paired_start (N := N) _ hv
    exact ⟨b0.same, b0.len, b0.nd, b0.tr, hp, b0.ob, b0.pre, b0.fr, b0.nw, b0.st, b0.nr⟩
  · rintro w' σ' z' b' _ ⟨x', om', he, hQ⟩
    exact fin_ok (k := Q) b0.len he b' (v := .non) vN fun w2 b2 r2 => hq x' om' .non w2 hQ b2 r2
  · rintro v x w' σ' z' b' _ r ⟨x', om', he, hQ⟩
    exact fin_ok (k := Q) b0.len he b' r fun w2 b2 r2 => hq x' om' v w2 hQ b2 r2
  · intro w' σ' z' b' l q
    exact q.elim
  · intro w' σ' z' b' l q
    exact q.elim
end

/-! ### calls -/
def mpS (n : Nat) : Sl → Sl
  | .ob j => .ob (n + j)
  | x => x
def mpO (n : Nat) : OO → OO
  | .gone => .gone
  | .lst xs => .lst (xs.map (mpS n))
  | .dk ks xs => .dk ks (xs.map (mpS n))
  | .dt hf ks xs => .dt hf ks (xs.map (mpS n))
  | .ins C ns xs => .ins C ns (xs.map (mpS n))
section
variable {K : PySem.W.Frag} {c : Ct} {w w' : Wd} {σ : St} {z : Z} {om' : List OO}
theorem Vl.mp {S H : Hp} {v : V} (hl : w.rho.length = z.ob.length) : ∀ {x : Sl}, Vl K w' v x → S = w'.S → Vl K ⟨w.rho ++ w'.rho, S, H⟩ v (mpS z.ob.length x)
  | .no, h, _ => h
  | .sh _, h, e => by
    subst e
    exact h
  | .ob j, ⟨p, h, e⟩, _ => ⟨p, by
    show (w.rho ++ w'.rho)[z.ob.length + j]? = some p
    rw [List.getElem?_append_right (by omega), hl, Nat.add_sub_cancel_left]
    exact h, e⟩
  | .tp _, h, e => by
    subst e
    exact h
  | .ex _ _, h, e => by
    subst e
    exact h
theorem Vls.mp {S H : Hp} (hl : w.rho.length = z.ob.length) : ∀ {vs : List V} {xs : List Sl}, Paired (Vl K w') vs xs → S = w'.S → Paired (Vl K ⟨w.rho ++ w'.rho, S, H⟩) vs (xs.map (mpS z.ob.length))
  | _, _, .nil, _ => .nil
  | _, _, .cons q t, e => .cons (Vl.mp hl q e) (Vls.mp hl t e)
theorem Vds.mp {S H : Hp} (hl : w.rho.length = z.ob.length) : ∀ {vs : List (NestedKey × Addr × Value)} {xs : List Sl}, Paired (VdR K w') vs xs → S = w'.S → Paired (VdR K ⟨w.rho ++ w'.rho, S, H⟩) vs (xs.map (mpS z.ob.length))
  | _, _, .nil, _ => .nil
  | _, _, .cons ⟨q1, q2, v, r, q⟩ t, e => .cons ⟨by rw [e]; exact q1, q2, v, r, Vl.mp hl q e⟩ (Vds.mp hl t e)
theorem B.back0 (b : B K c w σ z) (b' : B K ⟨w.S, w.H, []⟩ w' [] ⟨[], om'⟩) : B K c ⟨w.rho ++ w'.rho, w'.S, w'.H⟩ σ ⟨z.sl, z.ob ++ om'.map (mpO z.ob.length)⟩ ∧ w.Le ⟨w.rho ++ w'.rho, w'.S, w'.H⟩ := by
  have l : w.Le ⟨w.rho ++ w'.rho, w'.S, w'.H⟩ := ⟨b'.st, fun i q e => by
    show (w.rho ++ w'.rho)[i]? = some q
    rw [List.getElem?_append_left (List.getElem?_eq_some_iff.mp e).1]
    exact e⟩
  have hnew : ∀ p ∈ w'.rho, w.H p = none := fun p hp => by
    obtain ⟨i, hi⟩ := List.getElem?_of_mem hp
    exact b'.nr i p (Nat.zero_le _) hi
  have hfr : ∀ a o, w.H a = some o → w'.H a = some o := fun a o h => b'.fr a o h (by simp)
  have hkeep : ∀ p ∈ w.rho, w'.H p = w.H p := fun p hp => by
    cases e : w.H p with
    | none => exact absurd e (b.tr p hp)
    | some o => exact hfr p o e
  refine ⟨⟨b'.same, ?_, ?_, fun p hp => ?_, b.sl.mono fun _ _ q => q.mono l, fun i o p h1 h2 => ?_, fun i p h => l.rho i p (b.pre i p h), fun a o h hn => hfr a o (b.fr a o h hn), fun a o h => ?_, b.st.trans b'.st, fun i p hi h => ?_⟩, l⟩
  · show (w.rho ++ w'.rho).length = (z.ob ++ om'.map (mpO z.ob.length)).length
    have := b'.len
    rw [List.length_append, List.length_append, List.length_map, b.len, this]
  · refine List.nodup_append.mpr ⟨b.nd, b'.nd, fun a ha q hq e => ?_⟩
    subst e
    exact b.tr a ha (hnew a hq)
  · show w'.H p ≠ none
    rcases List.mem_append.mp hp with hp | hp
    · rw [hkeep p hp]
      exact b.tr p hp
    · exact b'.tr p hp
  · have h1 : (z.ob ++ om'.map (mpO z.ob.length))[i]? = some o := h1
    have h2 : (w.rho ++ w'.rho)[i]? = some p := h2
    by_cases hi : i < w.rho.length
    · rw [List.getElem?_append_left hi] at h2
      rw [List.getElem?_append_left (b.len ▸ hi)] at h1
      have hp := List.mem_of_getElem? h2
      refine (b.ob i o p h1 h2).mono l (fun e => ?_) (hkeep p hp)
      show w'.S p = none
      cases e2 : w'.S p with
      | none => rfl
      | some u =>
        rcases b'.nw p u e2 with q | q | q
        · exact absurd e q
        · exact absurd q (b.tr p hp)
        · cases q
    · rw [List.getElem?_append_right (by omega)] at h2
      rw [b.len] at hi h2
      rw [List.getElem?_append_right (by omega), List.getElem?_map] at h1
      obtain ⟨o', e1, e2⟩ := Option.map_eq_some_iff.mp h1
      subst e2
      have q := b'.ob _ o' p e1 h2
      cases o' with
      | gone => trivial
      | lst xs =>
        obtain ⟨hS, vs, hH, hv⟩ := q
        exact ⟨hS, vs, hH, Vls.mp b.len hv rfl⟩
      | dk ks xs =>
        obtain ⟨hS, vs, hH, hv⟩ := q
        exact ⟨hS, vs, hH, Vls.mp b.len hv rfl⟩
      | dt hf ks xs =>
        obtain ⟨hS, vs, hH, hk, hn, hv⟩ := q
        exact ⟨hS, vs, hH, hk, hn, Vds.mp b.len hv rfl⟩
      | ins C ns xs =>
        obtain ⟨hS, hl, dx, vs, hH, hv⟩ := q
        exact ⟨hS, by rw [List.length_map]; exact hl, dx, vs, hH, Vls.mp b.len hv rfl⟩
  · have h : w'.S a = some o := h
    rcases b'.nw a o h with q | q | q
    · have q : w.S a ≠ none := q
      cases e : w.S a with
      | none => exact absurd e q
      | some u => exact b.nw a u e
    · exact .inr (.inl (b.fresh q))
    · cases q
  · have h : (w.rho ++ w'.rho)[i]? = some p := h
    by_cases hi2 : i < w.rho.length
    · rw [List.getElem?_append_left hi2] at h
      exact b.nr i p hi h
    · rw [List.getElem?_append_right (by omega)] at h
      exact b.fresh (hnew p (List.mem_of_getElem? h))
theorem B.ent0 (b : B K c w σ z) : B K ⟨w.S, w.H, []⟩ ⟨[], w.S, w.H⟩ [] ⟨[], []⟩ := ⟨b.same, rfl, by simp, by simp, .nil, fun i o p h => by simp at h, fun i p h => by simp at h, fun _ _ h _ => h, fun a o h => .inl (by
  show w.S a ≠ none
  have h : w.S a = some o := h
  rw [h]
  simp), Same.refl _, fun i p _ h => by simp at h⟩
/-- with one object of the store -/
def mp1 (i n : Nat) : Sl → Sl
  | .ob 0 => .ob i
  | .ob (j + 1) => .ob (n + j)
  | x => x
def mpO1 (i n : Nat) : OO → OO
  | .gone => .gone
  | .lst xs => .lst (xs.map (mp1 i n))
  | .dk ks xs => .dk ks (xs.map (mp1 i n))
  | .dt hf ks xs => .dt hf ks (xs.map (mp1 i n))
  | .ins C ns xs => .ins C ns (xs.map (mp1 i n))
theorem B.ent1 (b : B K c w σ z) {i : Nat} {p : Addr} {xs : List Sl} {ds : List PyData} (hp : w.rho[i]? = some p) (ho : z.ob[i]? = some (.lst xs)) (hx : allSh xs = some ds) : B K ⟨w.S, w.H, [p]⟩ ⟨[p], w.S, w.H⟩ [] ⟨[], [.lst (ds.map .sh)]⟩ := by
  refine ⟨b.same, rfl, by simp, fun q hq => ?_, .nil, fun j o q h1 h2 => ?_, fun j q h => h, fun _ _ h _ => h, fun a o h => .inl (by
  show w.S a ≠ none
  have h : w.S a = some o := h
  rw [h]
  simp), Same.refl _, fun j q hj h => ?_⟩
  · rw [List.mem_singleton] at hq
    rw [hq]
    exact b.tr p (List.mem_of_getElem? hp)
  · have h2 : ([p] : List Addr)[j]? = some q := h2
    have h1 : ([OO.lst (ds.map Sl.sh)] : List OO)[j]? = some o := h1
    cases j with
    | zero =>
      cases h1
      cases h2
      obtain ⟨hS, vs, hH, hv⟩ := b.ob i _ p ho hp
      exact ⟨hS, vs, hH, dp_allSh (w := ⟨[p], w.S, w.H⟩) (allSh_dp (w := w) hx hv)⟩
    | succ j => simp at h1
  · have h : ([p] : List Addr)[j]? = some q := h
    have hj : 1 ≤ j := hj
    rw [List.getElem?_eq_none (by simpa using hj)] at h
    cases h
theorem Vl.mp1 {S H : Hp} {v : V} {i : Nat} {p : Addr} (hl : w.rho.length = z.ob.length) (hp : w.rho[i]? = some p) (h0 : w'.rho[0]? = some p) : ∀ {x : Sl}, Vl K w' v x → S = w'.S → Vl K ⟨w.rho ++ w'.rho.drop 1, S, H⟩ v (mp1 i z.ob.length x)
  | .no, h, _ => h
  | .sh _, h, e => by
    subst e
    exact h
  | .ob 0, ⟨q, h, e⟩, _ => ⟨q, by
    show (w.rho ++ w'.rho.drop 1)[i]? = some q
    rw [List.getElem?_append_left (List.getElem?_eq_some_iff.mp hp).1, ← h, h0]
    exact hp, e⟩
  | .ob (j + 1), ⟨q, h, e⟩, _ => ⟨q, by
    show (w.rho ++ w'.rho.drop 1)[z.ob.length + j]? = some q
    rw [List.getElem?_append_right (by omega), hl, Nat.add_sub_cancel_left, List.getElem?_drop, Nat.add_comm 1 j]
    exact h, e⟩
  | .tp _, h, e => by
    subst e
    exact h
  | .ex _ _, h, e => by
    subst e
    exact h
theorem Vls.mp1 {S H : Hp} {i : Nat} {p : Addr} (hl : w.rho.length = z.ob.length) (hp : w.rho[i]? = some p) (h0 : w'.rho[0]? = some p) : ∀ {vs : List V} {xs : List Sl}, Paired (Vl K w') vs xs → S = w'.S → Paired (Vl K ⟨w.rho ++ w'.rho.drop 1, S, H⟩) vs (xs.map (mp1 i z.ob.length))
  | _, _, .nil, _ => .nil
  | _, _, .cons q t, e => .cons (Vl.mp1 hl hp h0 q e) (Vls.mp1 hl hp h0 t e)
theorem Vds.mp1 {S H : Hp} {i : Nat} {p : Addr} (hl : w.rho.length = z.ob.length) (hp : w.rho[i]? = some p) (h0 : w'.rho[0]? = some p) : ∀ {vs : List (NestedKey × Addr × Value)} {xs : List Sl}, Paired (VdR K w') vs xs → S = w'.S → Paired (VdR K ⟨w.rho ++ w'.rho.drop 1, S, H⟩) vs (xs.map (mp1 i z.ob.length))
  | _, _, .nil, _ => .nil
  | _, _, .cons ⟨q1, q2, v, r, q⟩ t, e => .cons ⟨by rw [e]; exact q1, q2, v, r, Vl.mp1 hl hp h0 q e⟩ (Vds.mp1 hl hp h0 t e)
theorem B.back1 (b : B K c w σ z) {i : Nat} {p : Addr} {o1 : OO} {more : List OO} (hp : w.rho[i]? = some p) (b' : B K ⟨w.S, w.H, [p]⟩ w' [] ⟨[], o1 :: more⟩) :
    B K c ⟨w.rho ++ w'.rho.drop 1, w'.S, w'.H⟩ σ ⟨z.sl, z.ob.set i (mpO1 i z.ob.length o1) ++ more.map (mpO1 i z.ob.length)⟩ ∧ w.Le ⟨w.rho ++ w'.rho.drop 1, w'.S, w'.H⟩ := by
  have l : w.Le ⟨w.rho ++ w'.rho.drop 1, w'.S, w'.H⟩ := ⟨b'.st, fun i q e => by
    show (w.rho ++ w'.rho.drop 1)[i]? = some q
    rw [List.getElem?_append_left (List.getElem?_eq_some_iff.mp e).1]
    exact e⟩
  have h0 : w'.rho[0]? = some p := b'.pre 0 p rfl
  have hnew : ∀ q ∈ w'.rho.drop 1, w.H q = none := fun q hq => by
    obtain ⟨j, hj⟩ := List.getElem?_of_mem hq
    rw [List.getElem?_drop] at hj
    exact b'.nr (1 + j) q (by show 1 ≤ 1 + j; omega) hj
  have hfr : ∀ a o, w.H a = some o → a ≠ p → w'.H a = some o := fun a o h hn => b'.fr a o h (by simpa using hn)
  have hkeep : ∀ q ∈ w.rho, q ≠ p → w'.H q = w.H q := fun q hq hn => by
    cases e : w.H q with
    | none => exact absurd e (b.tr q hq)
    | some o => exact hfr q o e hn
  have hlen : w'.rho.length = more.length + 1 := b'.len
  refine ⟨⟨b'.same, ?_, ?_, fun q hq => ?_, b.sl.mono fun _ _ q => q.mono l, fun j o q h1 h2 => ?_, fun j q h => l.rho j q (b.pre j q h), fun a o h hn => ?_, fun a o h => ?_, b.st.trans b'.st, fun j q hj h => ?_⟩, l⟩
  · show (w.rho ++ w'.rho.drop 1).length = (z.ob.set i (mpO1 i z.ob.length o1) ++ more.map (mpO1 i z.ob.length)).length
    rw [List.length_append, List.length_append, List.length_map, List.length_set, List.length_drop, b.len, hlen]
    omega
  · refine List.nodup_append.mpr ⟨b.nd, b'.nd.sublist (List.drop_sublist _ _), fun a ha q hq e => ?_⟩
    subst e
    exact b.tr a ha (hnew a hq)
  · show w'.H q ≠ none
    rcases List.mem_append.mp hq with hq | hq
    · by_cases hqp : q = p
      · subst hqp
        exact b'.tr q (List.mem_of_getElem? h0)
      · rw [hkeep q hq hqp]
        exact b.tr q hq
    · exact b'.tr q (List.mem_of_mem_drop hq)
  · have h1 : (z.ob.set i (mpO1 i z.ob.length o1) ++ more.map (mpO1 i z.ob.length))[j]? = some o := h1
    have h2 : (w.rho ++ w'.rho.drop 1)[j]? = some q := h2
    have fin : ∀ {o' : OO} {a : Addr}, Ob K w' a o' → Ob K ⟨w.rho ++ w'.rho.drop 1, w'.S, w'.H⟩ a (mpO1 i z.ob.length o') := fun {o' a} hq => by
      cases o' with
      | gone => trivial
      | lst xs =>
        obtain ⟨hS, vs, hH, hv⟩ := hq
        exact ⟨hS, vs, hH, Vls.mp1 b.len hp h0 hv rfl⟩
      | dk ks xs =>
        obtain ⟨hS, vs, hH, hv⟩ := hq
        exact ⟨hS, vs, hH, Vls.mp1 b.len hp h0 hv rfl⟩
      | dt hf ks xs =>
        obtain ⟨hS, vs, hH, hk, hn, hv⟩ := hq
        exact ⟨hS, vs, hH, hk, hn, Vds.mp1 b.len hp h0 hv rfl⟩
      | ins C ns xs =>
        obtain ⟨hS, hl, dx, vs, hH, hv⟩ := hq
        exact ⟨hS, by rw [List.length_map]; exact hl, dx, vs, hH, Vls.mp1 b.len hp h0 hv rfl⟩
    by_cases hj : j < w.rho.length
    · rw [List.getElem?_append_left hj] at h2
      have hjz : j < z.ob.length := b.len ▸ hj
      rw [List.getElem?_append_left (by rw [List.length_set]; exact hjz)] at h1
      by_cases hij : i = j
      · subst hij
        rw [List.getElem?_set_self hjz] at h1
        cases h1
        rw [hp] at h2
        cases h2
        exact fin (b'.ob 0 o1 p rfl h0)
      · rw [List.getElem?_set_ne hij] at h1
        have hq := List.mem_of_getElem? h2
        have hqp : q ≠ p := fun e => hij (nodup_ixA b.nd hp (e ▸ h2))
        refine (b.ob j o q h1 h2).mono l (fun e => ?_) (hkeep q hq hqp)
        show w'.S q = none
        cases e2 : w'.S q with
        | none => rfl
        | some u =>
          rcases b'.nw q u e2 with r | r | r
          · exact absurd e r
          · exact absurd r (b.tr q hq)
          · exact absurd (List.mem_singleton.mp r) hqp
    · rw [List.getElem?_append_right (by omega), List.getElem?_drop] at h2
      rw [b.len] at hj h2
      rw [List.getElem?_append_right (by rw [List.length_set]; omega), List.length_set, List.getElem?_map] at h1
      obtain ⟨o', e1, e2⟩ := Option.map_eq_some_iff.mp h1
      subst e2
      refine fin (b'.ob (1 + (j - z.ob.length)) o' q ?_ h2)
      show (o1 :: more)[1 + (j - z.ob.length)]? = some o'
      rw [Nat.add_comm]
      exact e1
  · show w'.H a = some o
    have e := b.fr a o h hn
    refine hfr a o e fun hap => ?_
    subst hap
    by_cases hc : i < c.rho.length
    · have e5 : c.rho[i]? = some c.rho[i] := List.getElem?_eq_getElem hc
      have e6 := b.pre i _ e5
      rw [hp] at e6
      exact absurd (Option.some.inj e6 ▸ List.getElem_mem hc) hn
    · have e6 := b.nr i a (by omega) hp
      rw [h] at e6
      cases e6
  · have h : w'.S a = some o := h
    rcases b'.nw a o h with q | q | q
    · have q : w.S a ≠ none := q
      cases e : w.S a with
      | none => exact absurd e q
      | some u => exact b.nw a u e
    · exact .inr (.inl (b.fresh q))
    · refine .inr (b.inOr ?_)
      have q : a ∈ [p] := q
      rw [List.mem_singleton.mp q]
      exact List.mem_of_getElem? hp
  · have h : (w.rho ++ w'.rho.drop 1)[j]? = some q := h
    by_cases hi2 : j < w.rho.length
    · rw [List.getElem?_append_left hi2] at h
      exact b.nr j q hj h
    · rw [List.getElem?_append_right (by omega)] at h
      exact b.fresh (hnew q (List.mem_of_getElem? h))
end
end Dl

namespace Dl
open PySem PySem.Spec L2
open PyProof.Rows hiding St

/-! ### promises of the usual forms -/
/-- data in, data out -/
def PureR (F : List PyData → PyData → Prop) : Rl := fun xs om Q => ∃ ds d, xs = ds.map .sh ∧ om = [] ∧ F ds d ∧ Q (.sh d) []
/-- data in, a new list out -/
def NewR (F : List PyData → List PyData → Prop) : Rl := fun xs om Q => ∃ ds r, xs = ds.map .sh ∧ om = [] ∧ F ds r ∧ Q (.ob 0) [.lst (r.map .sh)]
/-- a box first, data behind it; data out, the box changed -/
def BoxR (F : List PyData → List PyData → PyData → List PyData → Prop) : Rl := fun xs om Q => ∃ b ds d b', xs = .ob 0 :: ds.map .sh ∧ om = [.lst (b.map .sh)] ∧ F b ds d b' ∧ Q (.sh d) [.lst (b'.map .sh)]
section
variable {X : Cy} {x : Str} {p pos : Pos} {e : Expr} {es : List Expr} {z : Z} {Q : Sl → Z → Prop} {k : Nat} {f : Addr} {fd : FuncData} {ps : List Str}
theorem mp_map (ds : List PyData) (n : Nat) : (ds.map Sl.sh).map (mpS n) = ds.map Sl.sh := by
  rw [List.map_map]
  exact List.map_congr_left fun d _ => rfl
theorem mp1_map (ds : List PyData) (i n : Nat) : (ds.map Sl.sh).map (mp1 i n) = ds.map Sl.sh := by
  rw [List.map_map]
  exact List.map_congr_left fun d _ => rfl
theorem allSh_eq : ∀ {xs : List Sl} {ds : List PyData}, allSh xs = some ds → xs = ds.map .sh
  | [], _, e => by
    cases e
    rfl
  | .sh d :: r, _, e => by
    obtain ⟨ds, e1, rfl⟩ := allSh_inv e
    rw [allSh_eq e1]
    rfl
/-- what a call by values does -/
theorem call_pure {F : List PyData → PyData → Prop} {c : Ct} {w : Wd} {σ : St} {kk : VK} {vs : List V} {xs : List Sl} {ds : List PyData} {d : PyData} {E : XK} (n : Nat) (b : B X.K c w σ z) (hv : Paired (Vl X.K w) vs xs) (hn : xs.length = n) (hx : allSh xs = some ds) (hF : F ds d) (hQ : Q (.sh d) z) (hk : Cont X.K c w σ Q kk) :
    spD X.K n (PureR F) (vs ++ []) w.H kk E := by
  rw [List.append_nil]
  refine ⟨by rw [hv.length]; exact hn, ⟨[], w.S, w.H⟩, xs, [], fun y om => y = .sh d ∧ om = [], rfl, b.ent0, ?_, ⟨ds, d, allSh_eq hx, rfl, hF, rfl, rfl⟩, fun y om' v w' hq b' r => ?_⟩
  · rw [allSh_eq hx]
    exact dp_allSh (w := ⟨[], w.S, w.H⟩) (allSh_dp (w := w) hx hv)
  · obtain ⟨rfl, rfl⟩ := hq
    obtain ⟨b2, l⟩ := b.back0 b'
    refine hk v (.sh d) ⟨w.rho ++ w'.rho, w'.S, w'.H⟩ z ?_ l r hQ
    have : (⟨z.sl, z.ob ++ ([] : List OO).map (mpO z.ob.length)⟩ : Z) = z := by
      cases z
      simp
    rw [this] at b2
    exact b2
theorem call_new {F : List PyData → List PyData → Prop} {c : Ct} {w : Wd} {σ : St} {kk : VK} {vs : List V} {xs : List Sl} {ds r : List PyData} {E : XK} (n : Nat) (b : B X.K c w σ z) (hv : Paired (Vl X.K w) vs xs) (hn : xs.length = n) (hx : allSh xs = some ds) (hF : F ds r)
    (hQ : Q (.ob z.ob.length) ⟨z.sl, z.ob ++ [.lst (r.map .sh)]⟩) (hk : Cont X.K c w σ Q kk) : spD X.K n (NewR F) (vs ++ []) w.H kk E := by
  rw [List.append_nil]
  refine ⟨by rw [hv.length]; exact hn, ⟨[], w.S, w.H⟩, xs, [], fun y om => y = .ob 0 ∧ om = [.lst (r.map .sh)], rfl, b.ent0, ?_, ⟨ds, r, allSh_eq hx, rfl, hF, rfl, rfl⟩, fun y om' v w' hq b' rv => ?_⟩
  · rw [allSh_eq hx]
    exact dp_allSh (w := ⟨[], w.S, w.H⟩) (allSh_dp (w := w) hx hv)
  · obtain ⟨rfl, rfl⟩ := hq
    obtain ⟨b2, l⟩ := b.back0 b'
    refine hk v (.ob z.ob.length) ⟨w.rho ++ w'.rho, w'.S, w'.H⟩ _ ?_ l (Vl.mp (z := z) (x := .ob 0) b.len rv rfl) hQ
    have : ([OO.lst (r.map .sh)] : List OO).map (mpO z.ob.length) = [.lst (r.map .sh)] := by
      show [OO.lst ((r.map Sl.sh).map (mpS z.ob.length))] = _
      rw [mp_map]
    rw [this] at b2
    exact b2
theorem call_box {F : List PyData → List PyData → PyData → List PyData → Prop} {c : Ct} {w : Wd} {σ : St} {kk : VK} {vs : List V} {xs ys : List Sl} {i : Nat} {bx bx' ds : List PyData} {d : PyData} {E : XK} (n : Nat) (b : B X.K c w σ z) (hv : Paired (Vl X.K w) vs (.ob i :: xs)) (hn : xs.length + 1 = n) (hx : allSh xs = some ds)
    (ho : z.ob[i]? = some (.lst ys)) (hy : allSh ys = some bx) (hF : F bx ds d bx') (hQ : Q (.sh d) ⟨z.sl, z.ob.set i (.lst (bx'.map .sh))⟩) (hk : Cont X.K c w σ Q kk) : spD X.K n (BoxR F) (vs ++ []) w.H kk E := by
  rw [List.append_nil]
  cases hv with
  | cons h1 ht =>
    obtain ⟨p, hp, rfl⟩ := h1
    refine ⟨by rw [List.length_cons, ht.length]; exact hn, ⟨[p], w.S, w.H⟩, .ob 0 :: xs, [.lst (bx.map .sh)], fun y om => y = .sh d ∧ om = [.lst (bx'.map .sh)], rfl, b.ent1 hp ho hy, .cons ⟨p, rfl, rfl⟩ ?_, ⟨bx, ds, d, bx', by rw [allSh_eq hx], rfl, hF, rfl, rfl⟩, fun y om' v w' hq b' r => ?_⟩
    · rw [allSh_eq hx]
      exact dp_allSh (w := ⟨[p], w.S, w.H⟩) (allSh_dp (w := w) hx ht)
    · obtain ⟨rfl, rfl⟩ := hq
      obtain ⟨b2, l⟩ := b.back1 hp b'
      refine hk v (.sh d) ⟨w.rho ++ w'.rho.drop 1, w'.S, w'.H⟩ _ ?_ l r hQ
      have : z.ob.set i (mpO1 i z.ob.length (.lst (bx'.map .sh))) ++ ([] : List OO).map (mpO1 i z.ob.length) = z.ob.set i (.lst (bx'.map .sh)) := by
        show z.ob.set i (.lst ((bx'.map Sl.sh).map (mp1 i z.ob.length))) ++ [] = _
        rw [mp1_map, List.append_nil]
      rw [this] at b2
      exact b2
end
/-- a def as callers know it -/
structure Df (P : Program) (w : World) (K : PySem.W.Frag) (mg : Str → Option Value) (base : Heap) (x : Str) (k : Nat) (ps : List Str) (R : Rl) : Prop where
  ex : ∃ (f : Addr) (fd : FuncData), FnG P w K mg base CX0 k f fd ps (spD K ps.length R) ∧ mg x = some (.ref f) ∧ PySem.W.keepIn K (.ref f) = true ∧ Binds K fd ps []
theorem pass0x {X : Cy} : Passes CX0 X E0 := fun _ _ _ _ _ _ _ h => h.elim
section
variable {X : Cy} {x : Str} {p pos : Pos} {e : Expr} {es : List Expr} {z : Z} {Q : Sl → Z → Prop} {k kk : Nat} {ps : List Str}
theorem we_callP {F : List PyData → PyData → Prop} (G : Df X.prog X.w X.K X.mg X.base x k ps (PureR F)) (hr : RoomG kk X.A) (hle : k ≤ kk)
    (h : WA X (e :: es) z fun xs z1 => ∃ ds d, allSh xs = some ds ∧ F ds d ∧ xs.length = ps.length ∧ Q (.sh d) z1) (hg : Gl X x := by rfl) (hd : (x == ("__debug__" : Str)) = false := by decide) (he : starEach (e :: es) X.env = (false, eval e X.env) :: starEach es X.env := by rfl)
    (hpl : (backTo pos (starEach es X.env)).any (·.1) = false := by rfl) : WE X (.Call (.Name x p) (e :: es) [] pos) z Q := by
  obtain ⟨f, fd, G, hm, hk, hb⟩ := G.ex
  exact fun c w σ kk bb hkk => tE_of (pe_callG G (hr.mono hle) hg hm hk hb pass0x paB hd he hpl) (h c w σ _ bb fun vs xs w1 z1 b1 l1 hv ⟨ds, d, hx, hF, hn, hQ⟩ => call_pure ps.length b1 hv hn hx hF hQ (hkk.le l1))
theorem we_callN {F : List PyData → List PyData → Prop} (G : Df X.prog X.w X.K X.mg X.base x k ps (NewR F)) (hr : RoomG kk X.A) (hle : k ≤ kk)
    (h : WA X (e :: es) z fun xs z1 => ∃ ds d, allSh xs = some ds ∧ F ds d ∧ xs.length = ps.length ∧ Q (.ob z1.ob.length) ⟨z1.sl, z1.ob ++ [.lst (d.map .sh)]⟩) (hg : Gl X x := by rfl) (hd : (x == ("__debug__" : Str)) = false := by decide) (he : starEach (e :: es) X.env = (false, eval e X.env) :: starEach es X.env := by rfl)
    (hpl : (backTo pos (starEach es X.env)).any (·.1) = false := by rfl) : WE X (.Call (.Name x p) (e :: es) [] pos) z Q := by
  obtain ⟨f, fd, G, hm, hk, hb⟩ := G.ex
  exact fun c w σ kk bb hkk => tE_of (pe_callG G (hr.mono hle) hg hm hk hb pass0x paB hd he hpl) (h c w σ _ bb fun vs xs w1 z1 b1 l1 hv ⟨ds, d, hx, hF, hn, hQ⟩ => call_new ps.length b1 hv hn hx hF hQ (hkk.le l1))
theorem we_callX0 {F : List PyData → List PyData → PyData → List PyData → Prop} (G : Df X.prog X.w X.K X.mg X.base x k ps (BoxR F)) (hr : RoomG kk X.A) (hle : k ≤ kk)
    (h : WA X (e :: es) z fun xs z1 => ∃ i ys zs bx ds d bx', xs = .ob i :: ys ∧ allSh ys = some ds ∧ z1.ob[i]? = some (.lst zs) ∧ allSh zs = some bx ∧ F bx ds d bx' ∧ xs.length = ps.length ∧ Q (.sh d) ⟨z1.sl, z1.ob.set i (.lst (bx'.map .sh))⟩)
    (hg : Gl X x := by rfl) (hd : (x == ("__debug__" : Str)) = false := by decide) (he : starEach (e :: es) X.env = (false, eval e X.env) :: starEach es X.env := by rfl)
    (hpl : (backTo pos (starEach es X.env)).any (·.1) = false := by rfl) : WE X (.Call (.Name x p) (e :: es) [] pos) z Q := by
  obtain ⟨f, fd, G, hm, hk, hb⟩ := G.ex
  exact fun c w σ kk bb hkk => tE_of (pe_callG G (hr.mono hle) hg hm hk hb pass0x paB hd he hpl) (h c w σ _ bb fun vs xs w1 z1 b1 l1 hv ⟨i, ys, zs, bx, ds, d, bx', e1, hx, ho, hy, hF, hn, hQ⟩ => by
    subst e1
    exact call_box (ys := zs) ps.length b1 hv hn hx ho hy hF hQ (hkk.le l1))
end
section
variable {P : Program} {w : World} {K : PySem.W.Frag} {mg : Str → Option Value} {base : Heap} {x : Str} {k k' : Nat} {ps : List Str} {R R' : Rl}
theorem Df.mono (D : Df P w K mg base x k ps R) (h : k ≤ k') : Df P w K mg base x k' ps R := by
  obtain ⟨f, fd, G, r⟩ := D.ex
  exact ⟨f, fd, G.mono h, r⟩
theorem Df.imp (D : Df P w K mg base x k ps R) (h : ∀ xs om Q, R' xs om Q → ∃ Q', R xs om Q' ∧ ∀ y om', Q' y om' → Q y om') : Df P w K mg base x k ps R' := by
  obtain ⟨f, fd, G, r⟩ := D.ex
  refine ⟨f, fd, G.imp fun vs H Q E ⟨hl, w0, xs, om, Qd, hH, b, hv, hR, hq⟩ => ?_, r⟩
  obtain ⟨Q', hR', hi⟩ := h xs om Qd hR
  exact ⟨hl, w0, xs, om, Q', hH, b, hv, hR', fun x om' v w' h1 => hq x om' v w' (hi x om' h1)⟩
/-- a new list that stays -/
theorem Df.frz {F : List PyData → List PyData → Prop} (D : Df P w K mg base x k ps (NewR F)) : Df P w K mg base x k ps (PureR fun ds d => ∃ r, F ds r ∧ d = .list r) := by
  obtain ⟨f, fd, G, hm⟩ := D.ex
  refine ⟨f, fd, G.imp fun vs H Q E ⟨hl, w0, xs, om, Qd, hH, b, hv, hR, hq⟩ => ?_, hm⟩
  obtain ⟨ds, d, e1, e2, ⟨r, hF, e3⟩, hQ⟩ := hR
  subst e1 e2 e3
  refine ⟨hl, w0, _, [], fun y om' => y = .ob 0 ∧ om' = [.lst (r.map .sh)], hH, b, hv, ⟨ds, r, rfl, rfl, hF, rfl, rfl⟩, ?_⟩
  rintro y om' v w' ⟨rfl, rfl⟩ b' ⟨p, hp, rfl⟩
  have hlen : w0.rho.length = 0 := b.len
  refine fin_ok (n := 0) (k := Q) hlen (Ext.frz 0 (r.map .sh) r [.lst (r.map .sh)] (Nat.le_refl _) rfl rfl (allSh_map r)) b' (x := .ob 0) ⟨p, hp, rfl⟩ fun w2 b2 r2 => hq _ _ _ w2 hQ b2 r2
theorem df_mk {qual : Str} {st : Stmt} {f : Addr} {fd : FuncData} (G : FnG P w K mg base CX0 k f fd ps (spD K ps.length R)) (hm : mg x = some (.ref f)) (hk : PySem.W.keepIn K (.ref f) = true) (hb : Binds K fd ps []) : Df P w K mg base x k ps R := ⟨f, fd, G, hm, hk, hb⟩
end

/-! ### list comprehensions -/
def wipeZ (sl : List Sl) : List Nat → List Sl
  | [] => sl
  | v :: vs => (wipeZ sl vs).set v .no
theorem B.wipe {K : PySem.W.Frag} {c : Ct} {w : Wd} {σ : St} {z : Z} (b : B K c w σ z) (vs : List Nat) : B K c w (L2.wipe σ vs) ⟨wipeZ z.sl vs, z.ob⟩ := by
  refine ⟨b.same, b.len, b.nd, b.tr, ?_, b.ob, b.pre, b.fr, b.nw, b.st, b.nr⟩
  show Paired (Sv K w) (L2.wipe σ vs) (wipeZ z.sl vs)
  induction vs with
  | nil => exact b.sl
  | cons v vs ih => exact paired_set (.inl rfl) v ih
/-- the slots as they were, the store as it is -/
theorem B.slots {K : PySem.W.Frag} {c c' : Ct} {w w' : Wd} {σ σ' : St} {z z' : Z} (b : B K c w σ z) (b' : B K c' w' σ' z') (l : w.Le w') : B K c' w' σ ⟨z.sl, z'.ob⟩ :=
  ⟨b'.same, b'.len, b'.nd, b'.tr, b.sl.mono fun _ _ q => q.mono l, b'.ob, b'.pre, b'.fr, b'.nw, b'.st, b'.nr⟩
theorem wipe_wipe (σ : St) : ∀ vs : List Nat, L2.wipe (L2.wipe σ vs) vs = L2.wipe σ vs := fun vs => by
  have e : ∀ (us : List Nat) (τ : St), (∀ u ∈ us, u ∈ vs) → (∀ u ∈ us, τ.set u none = τ) → L2.wipe τ us = τ := fun us => by
    induction us with
    | nil => exact fun τ _ _ => rfl
    | cons u us ih =>
      intro τ h1 h2
      show (L2.wipe τ us).set u none = τ
      rw [ih τ (fun v hv => h1 v (List.mem_cons_of_mem _ hv)) (fun v hv => h2 v (List.mem_cons_of_mem _ hv))]
      exact h2 u List.mem_cons_self
  refine e vs _ (fun u h => h) fun u hu => ?_
  have f : ∀ (us : List Nat) (τ : St), u ∈ us → (L2.wipe τ us).set u none = L2.wipe τ us := fun us => by
    induction us with
    | nil => exact fun τ h => absurd h (by simp)
    | cons v us ih =>
      intro τ h
      show ((L2.wipe τ us).set v none).set u none = (L2.wipe τ us).set v none
      by_cases huv : u = v
      · subst huv
        rw [List.set_set]
      · rcases List.mem_cons.mp h with h | h
        · exact absurd h huv
        · rw [List.set_comm _ _ (Ne.symm huv), ih τ h]
  exact f vs σ hu
def WTs (X : Cy) (ifs : List Expr) (z : Z) (Q : Bool → Z → Prop) : Prop := match ifs with
  | [] => Q true z
  | [c] => WT X c z Q
  | _ => False
def tTs (X : Cy) (ifs : List Expr) : TT := match ifs with
  | [] => tYes
  | [c] => tT X c
  | _ => fun _ _ _ => False
theorem ptsB {X : Cy} : ∀ {ifs : List Expr}, PTs X ifs (tTs X ifs)
  | [] => pts_nil
  | [c] => pts_one ptB
  | _ :: _ :: _ => ⟨fun _ _ _ _ _ _ h => h.elim⟩
theorem wts_ok {X : Cy} {z : Z} {Q : Bool → Z → Prop} : ∀ {ifs : List Expr}, WTs X ifs z Q → ∀ (c : CtX X) w σ (k : Bool → Hp → Prop), B X.K c w σ z → (∀ b w' z', B X.K c w' σ z' → w.Le w' → Q b z' → k b w'.H) → tTs X ifs σ w.H k
  | [], h, c, w, σ, k, b, hk => hk true w z b (.refl w) h
  | [_], h, c, w, σ, k, b, hk => h c w σ k b hk
section
variable {X : Cy} {tg iter elt : Expr} {ifs : List Expr} {scope : Scope} {z : Z} {pos : Pos}
/-- a comprehension's inner context -/
abbrev Blk (X : Cy) (scope : Scope) (s : Shared) (H : Hp) (C : Addr) (cl : List (Str × Addr)) (fp : List Addr) : Cy := ⟨X.blk s H scope (compEnvC scope cl C X.env) fp, fun _ _ _ => False, false⟩
/-- what a comprehension asks: I by the turn, what is made so far, the state -/
def LcD (X : Cy) (tg elt : Expr) (ifs : List Expr) (scope : Scope) (vs : List Nat) (g : TG) (Q : List Sl → Z → Prop) : List Sl → (Z → Prop) → Z → Prop := fun ys G z1 => ys.length ≤ 100000 ∧ ∃ I : Nat → List Sl → List OO → Prop, I 0 [] z1.ob ∧
  (∀ i acc om, I i acc om → G ⟨wipeZ z1.sl vs, om⟩) ∧
  (∀ i y acc om, ys[i]? = some y → I i acc om → acc.length ≤ i → GD X.K vs g y ⟨wipeZ z1.sl vs, om⟩ fun z2 => ∀ s H C cl fp, WTs (Blk X scope s H C cl fp) ifs z2 fun b z3 =>
    (b = true → ∀ s H C cl fp, WE (Blk X scope s H C cl fp) elt z3 fun x z4 => I (i + 1) (acc ++ [x]) z4.ob) ∧ (b = false → I (i + 1) acc z3.ob)) ∧
  ∀ acc om, I ys.length acc om → acc.length ≤ ys.length → Q acc ⟨z1.sl, om⟩
theorem lc_ok {own : List (Str × Nat)} {g : TG} {Q : List Sl → Z → Prop} {c : CtX X} {w : Wd} {σ : St} {k : VK} (bb : B X.K c w σ z)
    (h : WI X tg iter z (LcD X tg elt ifs scope (own.map (·.2)) g Q))
    (hk : ∀ D vs acc w1 z1, B X.K c w1 σ z1 → w.Le w1 → Aside c w1 D → w1.H D = some (.lst vs) → Paired (Vl X.K w1) vs acc → Q acc z1 → k (.ref D) w1.H) :
    tLc (tI X tg iter) g (fun σ H Q => ∀ s H0 C cl fp, tTs (Blk X scope s H0 C cl fp) ifs σ H Q) (fun σ H Q => ∀ s H0 C cl fp, tE (Blk X scope s H0 C cl fp) elt σ H Q) (own.map (·.2)) σ w.H k := by
  refine h c w σ _ bb fun J ys G w1 z1 b1 l1 dw ⟨hyl, I, h0, hG, hs, hd⟩ D hD => ?_
  have as1 : Aside c w1 D := b1.asideNew hD
  refine ⟨fun i m H' => m = ys.length - i ∧ i ≤ ys.length ∧ ∃ w' om vs acc, B X.K c w' σ ⟨z1.sl, om⟩ ∧ w1.Le w' ∧ w'.H = H' ∧ Aside c w' D ∧ w'.H D = some (.lst vs) ∧ Paired (Vl X.K w') vs acc ∧ acc.length ≤ i ∧ I i acc om,
    ⟨ys.length, by simp, Nat.zero_le _, ⟨w1.rho, w1.S, upd w1.H D (.lst [])⟩, z1.ob, [], [], b1.aside as1, le_aside, rfl, ⟨as1.nr, as1.nS, as1.nc⟩, upd_same, .nil, Nat.zero_le _, h0⟩, ?_⟩
  rintro i m H2 ⟨rfl, hi, w2, om, vs, acc, b2, l2, rfl, as2, hD2, hp2, ha, hI⟩
  have bw := b2.wipe (own.map (·.2))
  by_cases hlt : i < ys.length
  · refine .inr ⟨dw.goes i c w2 _ _ hlt bw l2 (hG i acc om hI), fun H' => ∃ w' om vs acc, B X.K c w' σ ⟨z1.sl, om⟩ ∧ w1.Le w' ∧ w'.H = H' ∧ Aside c w' D ∧ w'.H D = some (.lst vs) ∧ Paired (Vl X.K w') vs acc ∧ acc.length ≤ i + 1 ∧ I (i + 1) acc om,
      fun H' q => ⟨ys.length - (i + 1), by omega, rfl, hlt, q⟩, fun x H' y => ?_⟩
    have hy : ys[i]? = some ys[i] := List.getElem?_eq_getElem hlt
    have bs := bw.self
    obtain ⟨w3, rfl, b3, l3, r3⟩ := dw.yields i w2.ct w2 _ _ x H' ys[i] hy bs l2 (hG i acc om hI) y
    have b23 : w2.Le w3 := l3
    refine hs i ys[i] acc om hy hI ha w2.ct w3 _ x _ b3 r3 fun w4 σ4 z4 b4 l4 hwp hw => ⟨hwp.trans (wipe_wipe σ _), fun s0 H0 C cl fp => ?_⟩
    refine wts_ok (hw s0 H0 C cl fp) (.of _ (fun _ _ _ h => h) w2.ct) w4 σ4 _ b4 fun d w5 z5 b5 l5 hq => ?_
    have l25 : w2.Le w5 := (l3.trans l4).trans l5
    cases d with
    | true =>
      show ∀ s H0 C cl fp, tE (Blk X scope s H0 C cl fp) elt σ4 w5.H _
      intro s1 H1 C1 cl1 fp1
      refine hq.1 rfl s1 H1 C1 cl1 fp1 (.of _ (fun _ _ _ h => h) w2.ct) w5 σ4 _ b5 fun v x6 w6 z6 b6 l6 r6 hI6 => ?_
      have l26 := l25.trans l6
      obtain ⟨as6, hD6⟩ := as2.on b2 hD2 b6
      refine ⟨vs, hD6, ?_, ⟨w6.rho, w6.S, upd w6.H D (.lst (vs ++ [v]))⟩, z6.ob, vs ++ [v], acc ++ [x6], ?_, ?_, rfl, ⟨as6.nr, as6.nS, as6.nc⟩, upd_same, ?_, ?_, hI6⟩
      · rw [hp2.length]
        exact Nat.lt_of_le_of_lt (Nat.le_trans ha (Nat.le_trans hi hyl)) (by decide)
      · have b7 : B X.K c w6 σ ⟨z1.sl, z6.ob⟩ := b2.slots (b2.comp b6) l26
        exact b7.aside as6
      · exact (l2.trans l26).trans le_aside
      · exact (hp2.mono fun _ _ q => q.mono (l26.trans le_aside)).snoc (r6.mono le_aside)
      · rw [List.length_append]
        simp
        omega
    | false =>
      show ∃ w' om vs acc, _
      obtain ⟨as5, hD5⟩ := as2.on b2 hD2 b5
      exact ⟨w5, z5.ob, vs, acc, b2.slots (b2.comp b5) l25, l2.trans l25, rfl, as5, hD5, hp2.mono fun _ _ q => q.mono l25, by omega, hq.2 rfl⟩
  · have e : i = ys.length := by omega
    subst e
    exact .inl ⟨dw.stops c w2 _ _ bw l2 (hG _ acc om hI), hk D vs acc w2 _ b2 (l1.trans l2) as2 hD2 hp2 (hd acc om hI ha)⟩
end
end Dl

namespace Dl
open PySem PySem.Spec L2
open PyProof.Rows hiding St

/-! ### comprehensions as expressions and in assignments -/
/-- what is made stays -/
def FrzK (Q : Sl → Z → Prop) : List Sl → Z → Prop := fun acc z1 => ∃ ds, allSh acc = some ds ∧ Q (.sh (.list ds)) z1
section
variable {X : Cy} {tg iter elt : Expr} {ifs : List Expr} {scope : Scope} {z : Z} {pos spos py : Pos} {own : List (Str × Nat)} {g : TG} {Q : Sl → Z → Prop}
theorem we_lcF (hN : X.N.Nodup) (ok : BlkOk X.N X.env.scope scope own) (hg : ∀ s H C cl fp, PG (Blk X scope s H C cl fp) tg g)
    (h : WI X tg iter z (LcD X tg elt ifs scope (own.map (·.2)) g (FrzK Q))) (hc : X.calm = true := by rfl) (hs : ∀ x, foldedSetIterable iter X.env x = pure x := by intro _; rfl) :
    WE X (.ListComp elt [⟨tg, iter, ifs, 0⟩] scope pos) z Q := fun c w σ k bb hk =>
  tE_of (pe_lc hc hN piB ok hg (fun s H C cl fp => ⟨fun pins s1 σ H1 Q I h => ptsB.run pins s1 σ H1 Q I (h s H C cl fp)⟩) (fun s H C cl fp => ⟨fun pins s1 σ H1 Q I h => h s H C cl fp pins s1 I⟩) hs)
    (lc_ok bb h fun D vs acc w1 z1 b1 l1 as hD hp ⟨ds, ha, hq⟩ => hk (.ref D) (.sh (.list ds)) ⟨w1.rho, upd w1.S D (.lst vs), w1.H⟩ z1 (b1.stay as hD) (l1.trans (le_stay as.nS)) (Dq.lst (.inl upd_same) (DpAll_mono (le_stay (w := w1) as.nS).st (allSh_dp ha hp))) hq)
theorem we_lc (hN : X.N.Nodup) (ok : BlkOk X.N X.env.scope scope own) (hg : ∀ s H C cl fp, PG (Blk X scope s H C cl fp) tg g)
    (h : WI X tg iter z (LcD X tg elt ifs scope (own.map (·.2)) g fun acc z1 => Q (.ob z1.ob.length) ⟨z1.sl, z1.ob ++ [.lst acc]⟩)) (hc : X.calm = true := by rfl) (hs : ∀ x, foldedSetIterable iter X.env x = pure x := by intro _; rfl) :
    WE X (.ListComp elt [⟨tg, iter, ifs, 0⟩] scope pos) z Q := fun c w σ k bb hk =>
  tE_of (pe_lc hc hN piB ok hg (fun s H C cl fp => ⟨fun pins s1 σ H1 Q I h => ptsB.run pins s1 σ H1 Q I (h s H C cl fp)⟩) (fun s H C cl fp => ⟨fun pins s1 σ H1 Q I h => h s H C cl fp pins s1 I⟩) hs)
    (lc_ok bb h fun D vs acc w1 z1 b1 l1 as hD hp hq => hk (.ref D) (.ob z1.ob.length) ⟨w1.rho ++ [D], w1.S, w1.H⟩ _ (b1.push as hD hp) (l1.trans le_push) ⟨D, by
      show (w1.rho ++ [D])[z1.ob.length]? = some D
      rw [← b1.len, List.getElem?_append_right (Nat.le_refl _), Nat.sub_self]
      rfl, rfl⟩ hq)
theorem w1_setLcF {P : Out → Prop} {i : Nat} {y : Str} (hN : X.N.Nodup) (hy : X.N[i]? = some y) (ok : BlkOk X.N X.env.scope scope own) (hg : ∀ s H C cl fp, PG (Blk X scope s H C cl fp) tg g)
    (h : WI X tg iter z (LcD X tg elt ifs scope (own.map (·.2)) g (FrzK fun y z1 => P (.nx ⟨z1.sl.set i y, z1.ob⟩))))
    (hsw : swapsWith (.ListComp elt [⟨tg, iter, ifs, 0⟩] scope pos) (some (.Name y py)) spos.line X.env = pure true) (hyl : X.env.scope.names.lookup y = some .local := by rfl) (hc : X.calm = true := by rfl) (hs : ∀ x, foldedSetIterable iter X.env x = pure x := by intro _; rfl) :
    W1 X (.Assign [.Name y py] (.ListComp elt [⟨tg, iter, ifs, 0⟩] scope pos) spos) z P := fun c w σ D bb hk =>
  tS_of (ps_setLc hc hN hy hyl hsw piB ok hg (fun s H C cl fp => ⟨fun pins s1 σ H1 Q I h => ptsB.run pins s1 σ H1 Q I (h s H C cl fp)⟩) (fun s H C cl fp => ⟨fun pins s1 σ H1 Q I h => h s H C cl fp pins s1 I⟩) hs)
    (lc_ok bb h fun A vs acc w1 z1 b1 l1 as hD hp ⟨ds, ha, hq⟩ => by
      have b2 : B X.K c ⟨w1.rho, upd w1.S A (.lst vs), w1.H⟩ σ z1 := b1.stay as hD
      have r2 : Vl X.K ⟨w1.rho, upd w1.S A (.lst vs), w1.H⟩ (.ref A) (.sh (.list ds)) := Dq.lst (.inl upd_same) (DpAll_mono (le_stay (w := w1) as.nS).st (allSh_dp ha hp))
      exact hk.nx ⟨w1.rho, upd w1.S A (.lst vs), w1.H⟩ _ _ (b2.setSl (i := i) r2) (l1.trans (le_stay as.nS)) hq)
end

/-! ### operators over data -/
section
variable {X : Cy} {z : Z} {Q : Sl → Z → Prop} {i j : Int}
theorem rd_addI (h : Q (.sh (.int (i + j))) z) : RD X (binaryOp .Add) (.sh (.int i)) (.sh (.int j)) z Q := fun c w σ v u k b r1 r2 hk => by
  cases Dp_int r1
  cases Dp_int r2
  exact rB_of op_add ⟨i, j, rfl, rfl, hk _ _ w z b (.refl w) (vI _) h⟩
theorem rd_subI (h : Q (.sh (.int (i - j))) z) : RD X (binaryOp .Sub) (.sh (.int i)) (.sh (.int j)) z Q := fun c w σ v u k b r1 r2 hk => by
  cases Dp_int r1
  cases Dp_int r2
  exact rB_of op_sub ⟨i, j, rfl, rfl, hk _ _ w z b (.refl w) (vI _) h⟩
theorem rd_mulI (hc : CMul i j) (h : Q (.sh (.int (i * j))) z) : RD X (binaryOp .Mult) (.sh (.int i)) (.sh (.int j)) z Q := fun c w σ v u k b r1 r2 hk => by
  cases Dp_int r1
  cases Dp_int r2
  exact rB_of op_mul ⟨i, j, rfl, rfl, hc, hk _ _ w z b (.refl w) (vI _) h⟩
theorem rd_modI (hc : 0 < j) (h : Q (.sh (.int (i % j))) z) : RD X (binaryOp .Mod) (.sh (.int i)) (.sh (.int j)) z Q := fun c w σ v u k b r1 r2 hk => by
  cases Dp_int r1
  cases Dp_int r2
  exact rB_of op_mod ⟨i, j, rfl, rfl, hc, hk _ _ w z b (.refl w) (vI _) h⟩
theorem rd_fdivI (hc : 0 < j ∧ j < 1073741824) (h : Q (.sh (.int (i / j))) z) : RD X (binaryOp .FloorDiv) (.sh (.int i)) (.sh (.int j)) z Q := fun c w σ v u k b r1 r2 hk => by
  cases Dp_int r1
  cases Dp_int r2
  exact rB_of op_fdiv ⟨i, j, rfl, rfl, hc, hk _ _ w z b (.refl w) (vI _) h⟩
theorem rd_powI (hc : CPow i j) (h : Q (.sh (.int (i ^ j.toNat))) z) : RD X (binaryOp .Pow) (.sh (.int i)) (.sh (.int j)) z Q := fun c w σ v u k b r1 r2 hk => by
  cases Dp_int r1
  cases Dp_int r2
  exact rB_of op_pow ⟨i, j, rfl, rfl, hc, hk _ _ w z b (.refl w) (vI _) h⟩
theorem rd_addS {x y : Str} (hc : x.length + y.length ≤ sizeLine) (h : Q (.sh (.str (x ++ y))) z) : RD X (binaryOp .Add) (.sh (.str x)) (.sh (.str y)) z Q := fun c w σ v u k b r1 r2 hk => by
  cases Dp_str r1
  cases Dp_str r2
  exact rB_of op_add_str ⟨x, y, rfl, rfl, hc, hk _ _ w z b (.refl w) (vS _) h⟩
theorem rd_ltI (h : Q (.sh (.bool (decide (i < j)))) z) : RD X (compareOp .Lt) (.sh (.int i)) (.sh (.int j)) z Q := fun c w σ v u k b r1 r2 hk => by
  cases Dp_int r1
  cases Dp_int r2
  exact rB_of op_lt ⟨i, j, rfl, rfl, hk _ _ w z b (.refl w) (vB _) h⟩
theorem rd_leI (h : Q (.sh (.bool (decide (i ≤ j)))) z) : RD X (compareOp .LtE) (.sh (.int i)) (.sh (.int j)) z Q := fun c w σ v u k b r1 r2 hk => by
  cases Dp_int r1
  cases Dp_int r2
  exact rB_of op_le ⟨i, j, rfl, rfl, hk _ _ w z b (.refl w) (vB _) h⟩
theorem rd_gtI (h : Q (.sh (.bool (decide (j < i)))) z) : RD X (compareOp .Gt) (.sh (.int i)) (.sh (.int j)) z Q := fun c w σ v u k b r1 r2 hk => by
  cases Dp_int r1
  cases Dp_int r2
  exact rB_of op_gt ⟨i, j, rfl, rfl, hk _ _ w z b (.refl w) (vB _) h⟩
theorem rd_geI (h : Q (.sh (.bool (decide (j ≤ i)))) z) : RD X (compareOp .GtE) (.sh (.int i)) (.sh (.int j)) z Q := fun c w σ v u k b r1 r2 hk => by
  cases Dp_int r1
  cases Dp_int r2
  exact rB_of op_ge ⟨i, j, rfl, rfl, hk _ _ w z b (.refl w) (vB _) h⟩
theorem dint_eq : decide ((V.int i) = .int j) = decide (i = j) := by simp
theorem rd_eqI (h : Q (.sh (.bool (decide (i = j)))) z) : RD X (compareOp .Eq) (.sh (.int i)) (.sh (.int j)) z Q := fun c w σ v u k b r1 r2 hk => by
  cases Dp_int r1
  cases Dp_int r2
  refine rB_of op_eq ⟨rfl, ?_⟩
  rw [dint_eq]
  exact hk _ _ w z b (.refl w) (vB _) h
theorem rd_neI (h : Q (.sh (.bool (!decide (i = j)))) z) : RD X (compareOp .NotEq) (.sh (.int i)) (.sh (.int j)) z Q := fun c w σ v u k b r1 r2 hk => by
  cases Dp_int r1
  cases Dp_int r2
  refine rB_of op_ne ⟨rfl, ?_⟩
  rw [dint_eq]
  exact hk _ _ w z b (.refl w) (vB _) h
theorem rd_eqB {p q : Bool} (h : Q (.sh (.bool (decide (p = q)))) z) : RD X (compareOp .Eq) (.sh (.bool p)) (.sh (.bool q)) z Q := fun c w σ v u k b r1 r2 hk => by
  cases Dp_bl r1
  cases Dp_bl r2
  refine rB_of op_eq ⟨rfl, ?_⟩
  rw [show decide ((V.bl p) = .bl q) = decide (p = q) by simp]
  exact hk _ _ w z b (.refl w) (vB _) h
theorem rd_neB {p q : Bool} (h : Q (.sh (.bool (!decide (p = q)))) z) : RD X (compareOp .NotEq) (.sh (.bool p)) (.sh (.bool q)) z Q := fun c w σ v u k b r1 r2 hk => by
  cases Dp_bl r1
  cases Dp_bl r2
  refine rB_of op_ne ⟨rfl, ?_⟩
  rw [show decide ((V.bl p) = .bl q) = decide (p = q) by simp]
  exact hk _ _ w z b (.refl w) (vB _) h
theorem rd_eqS {p q : Str} (h : Q (.sh (.bool (decide (p = q)))) z) : RD X (compareOp .Eq) (.sh (.str p)) (.sh (.str q)) z Q := fun c w σ v u k b r1 r2 hk => by
  cases Dp_str r1
  cases Dp_str r2
  refine rB_of op_eq ⟨rfl, ?_⟩
  rw [show decide ((V.str p) = .str q) = decide (p = q) by simp]
  exact hk _ _ w z b (.refl w) (vB _) h
theorem rd_neS {p q : Str} (h : Q (.sh (.bool (!decide (p = q)))) z) : RD X (compareOp .NotEq) (.sh (.str p)) (.sh (.str q)) z Q := fun c w σ v u k b r1 r2 hk => by
  cases Dp_str r1
  cases Dp_str r2
  refine rB_of op_ne ⟨rfl, ?_⟩
  rw [show decide ((V.str p) = .str q) = decide (p = q) by simp]
  exact hk _ _ w z b (.refl w) (vB _) h
/-- data of any depth -/
theorem shaped_nd {d : PyData} (h : SeqAt.shaped d = true) : d.hasDict = false := by
  unfold SeqAt.shaped at h
  rw [Bool.and_eq_true] at h
  exact PyData.hasDict_of_canLay d h.1
theorem Vl.dp {K : PySem.W.Frag} {c : Ct} {w : Wd} {σ : St} (b : B K c w σ z) {v : V} {d : PyData} (h : Vl K w v (.sh d)) (n : SeqAt.shaped d = true) : L2.Dp K w.H v d := (Dp_mono b.same h).dp (shaped_nd n)
theorem rd_eqD {d e : PyData} (hu : X.A.units + 64 < cLine) (hd : SeqAt.shaped d = true) (he : SeqAt.shaped e = true) (h : Q (.sh (.bool (PyData.eqv d e))) z) : RD X (compareOp .Eq) (.sh d) (.sh e) z Q := fun c w σ v u k b r1 r2 hk =>
  rB_of (op_eqD hu) ⟨d, e, r1.dp b hd, r2.dp b he, hd, he, hk _ _ w z b (.refl w) (vB _) h⟩
theorem rd_neD {d e : PyData} (hu : X.A.units + 64 < cLine) (hd : SeqAt.shaped d = true) (he : SeqAt.shaped e = true) (h : Q (.sh (.bool (!PyData.eqv d e))) z) : RD X (compareOp .NotEq) (.sh d) (.sh e) z Q := fun c w σ v u k b r1 r2 hk =>
  rB_of (op_neD hu) ⟨d, e, r1.dp b hd, r2.dp b he, hd, he, hk _ _ w z b (.refl w) (vB _) h⟩
def isNone : PyData → Bool
  | .none => true
  | _ => false
theorem Dp_isN {K : PySem.W.Frag} {H : Hp} {v : V} {d : PyData} (h : Dq K H v d) : decide (v = .non) = isNone d := by cases h <;> rfl
theorem rd_isN {d : PyData} (h : Q (.sh (.bool (isNone d))) z) : RD X (compareOp .Is) (.sh d) (.sh .none) z Q := fun c w σ v u k b r1 r2 hk => by
  cases Dp_non r2
  refine rB_of op_isN ⟨rfl, ?_⟩
  rw [Dp_isN r1]
  exact hk _ _ w z b (.refl w) (vB _) h
theorem rd_notN {d : PyData} (h : Q (.sh (.bool (!isNone d))) z) : RD X (compareOp .IsNot) (.sh d) (.sh .none) z Q := fun c w σ v u k b r1 r2 hk => by
  cases Dp_non r2
  refine rB_of op_notN ⟨rfl, ?_⟩
  rw [Dp_isN r1]
  exact hk _ _ w z b (.refl w) (vB _) h
theorem ud_neg (h : Q (.sh (.int (-i))) z) : UD X (unaryOp .USub) (.sh (.int i)) z Q := fun c w σ v k b r1 hk => by
  cases Dp_int r1
  exact uB_of un_neg ⟨i, rfl, hk _ _ w z b (.refl w) (vI _) h⟩
/-! lists: +, * -/
def rCatR (K : PySem.W.Frag) : R2 := fun x y H Q => ∃ l b xs zs, x = .ref l ∧ y = .ref b ∧ Rd H l (.lst xs) ∧ Rd H b (.lst zs) ∧ xs.length + zs.length ≤ sizeLine ∧ ∀ p, H p = none → Q (.ref p) (upd H p (.lst (xs ++ zs)))
theorem op_catR : OpR X (binaryOp .Add) (rCatR X.K) := by
  intro pins s σ H x y v u Q I rx ry h
  obtain ⟨l, b, xs, zs, rfl, rfl, hH, hB, hz, q⟩ := h
  cases rx
  cases ry
  obtain ⟨z, its, n, r, e⟩ := hH.ok I.hok
  obtain ⟨z2, its2, n2, r2, e2⟩ := hB.ok I.hok
  have hl := r.length
  have hl2 := r2.length
  refine PySem.P.add_list e e2 ?_ (by rw [List.size_toArray, List.size_toArray]; omega)
  have ea : its.toArray ++ its2.toArray = (its ++ its2).toArray := by simp
  rw [ea]
  exact ⟨.ref _, _, I.lnew (t' := s.toks) (r.append r2) (by rw [List.length_append]; omega), rfl, q _ I.fresh⟩
theorem DqAll_app {K : PySem.W.Frag} {H : Hp} : ∀ {vs us : List V} {ds es : List PyData}, DqAll K H vs ds → DqAll K H us es → DqAll K H (vs ++ us) (ds ++ es)
  | _, _, _, _, .nil, h => h
  | _, _, _, _, .cons h t, r => .cons h (DqAll_app t r)
theorem rd_catF {ds es : List PyData} (hc : ds.length + es.length ≤ 100000) (h : Q (.sh (.list (ds ++ es))) z) : RD X (binaryOp .Add) (.sh (.list ds)) (.sh (.list es)) z Q := fun c w σ v u k b r1 r2 hk => by
  obtain ⟨p, xs, rfl, h1, s1⟩ := Dp_lstI r1
  obtain ⟨q, ys, rfl, h2, s2⟩ := Dp_lstI r2
  refine rB_of op_catR ⟨p, q, xs, ys, rfl, rfl, Same.rd b.same h1, Same.rd b.same h2, ?_, new_lstF b (DqAll_app s1 s2) hk h⟩
  rw [DpAll_len s1, DpAll_len s2]
  exact Nat.le_trans hc (by decide)
theorem rd_catO {ds es : List PyData} (hc : ds.length + es.length ≤ 100000) (h : Q (.ob z.ob.length) ⟨z.sl, z.ob ++ [.lst ((ds ++ es).map .sh)]⟩) : RD X (binaryOp .Add) (.sh (.list ds)) (.sh (.list es)) z Q := fun c w σ v u k b r1 r2 hk => by
  obtain ⟨p, xs, rfl, h1, s1⟩ := Dp_lstI r1
  obtain ⟨q, ys, rfl, h2, s2⟩ := Dp_lstI r2
  refine rB_of op_catR ⟨p, q, xs, ys, rfl, rfl, Same.rd b.same h1, Same.rd b.same h2, ?_, new_lst b (dp_allSh (DqAll_app s1 s2)) hk h⟩
  rw [DpAll_len s1, DpAll_len s2]
  exact Nat.le_trans hc (by decide)
end

/-! ### subscripts -/
def ixB (X : Cy) : R2 := fun x y H Q => ∀ (value slice : Expr) (pins : List (Addr × Obj)) (s : Shared) (σ : St) (v u : Value), Inv X pins σ H s → RelV x v → RelV y u → subscripted slice false v u = operate [v, u] (getItem v u) →
  wpAny (model X.prog X.w) X.A (subscriptTail value slice v u) (EP X pins σ Q) X.xe s
theorem ixB_op {X : Cy} : IxR X (ixB X) := fun value slice pins s σ _ _ _ v u _ I rx ry h hs => h value slice pins s σ v u I rx ry hs
theorem ixB_of {X : Cy} {r : R2} {H : Hp} {x y : V} {Q : VK} (o : IxR X r) (h : r x y H Q) : ixB X x y H Q := fun value slice pins s σ v u I rx ry hs => o value slice pins s σ H x y v u Q I rx ry h hs
def ID (X : Cy) (x y : Sl) (z : Z) (Q : Sl → Z → Prop) : Prop := ∀ (c : CtX X) w σ v u k, B X.K c w σ z → Vl X.K w v x → Vl X.K w u y → Cont X.K c w σ Q k → ixB X v u w.H k
section
variable {X : Cy} {a b : Expr} {z : Z} {pos : Pos} {Q : Sl → Z → Prop}
theorem we_ix (h : WE X a z fun x z1 => WE X b z1 fun y z2 => ID X x y z2 Q) (hs : PlainIx b := by exact fun _ _ => rfl) : WE X (.Subscript a b pos) z Q := fun c w σ k bb hk =>
  tE_of (pe_ix ixB_op peB peB hs) (h c w σ _ bb fun v x w1 z1 b1 l1 q1 h1 => h1 c w1 σ _ b1 fun u y w2 z2 b2 l2 q2 h2 => h2 c w2 σ v u k b2 (q1.mono l2) q2 (hk.le (l1.trans l2)))
theorem atI_paired {α β : Type} {F : α → β → Prop} {xs : List α} {ys : List β} {i : Int} {y : β} (h : Paired F xs ys) (e : atI ys i = some y) : ∃ x, atI xs i = some x ∧ F x y := by
  unfold atI at e ⊢
  rw [h.length]
  obtain ⟨j, h1, h2⟩ := Option.bind_eq_some_iff.mp e
  obtain ⟨x, e1, q⟩ := paired_get h h2
  exact ⟨x, by rw [h1]; exact e1, q⟩
theorem DqAll_paired {K : PySem.W.Frag} {H : Hp} : ∀ {vs : List V} {ds : List PyData}, DqAll K H vs ds → Paired (Dq K H) vs ds
  | _, _, .nil => .nil
  | _, _, .cons h t => .cons h (DqAll_paired t)
theorem paired_DqAll {K : PySem.W.Frag} {H : Hp} : ∀ {vs : List V} {ds : List PyData}, Paired (Dq K H) vs ds → DqAll K H vs ds
  | _, _, .nil => .nil
  | _, _, .cons h t => .cons h (paired_DqAll t)
theorem id_L {ds : List PyData} {i : Int} {d : PyData} (e : atI ds i = some d) (h : Q (.sh d) z) : ID X (.sh (.list ds)) (.sh (.int i)) z Q := fun c w σ v u k b r1 r2 hk => by
  obtain ⟨p, xs, rfl, h1, s1⟩ := Dp_lstI r1
  cases Dp_int r2
  obtain ⟨x, e1, q⟩ := atI_paired (DqAll_paired s1) e
  exact ixB_of ix_list ⟨p, xs, i, x, rfl, rfl, .inl (Same.rd b.same h1), e1, hk _ _ w z b (.refl w) (vsh q) h⟩
theorem id_T {ds : List PyData} {i : Int} {d : PyData} (e : atI ds i = some d) (h : Q (.sh d) z) : ID X (.sh (.tuple ds)) (.sh (.int i)) z Q := fun c w σ v u k b r1 r2 hk => by
  obtain ⟨p, xs, rfl, h1, s1⟩ := Dp_tupI r1
  cases Dp_int r2
  obtain ⟨x, e1, q⟩ := atI_paired (DqAll_paired s1) e
  exact ixB_of ix_tup ⟨p, xs, i, x, rfl, rfl, Same.tup b.same h1, e1, hk _ _ w z b (.refl w) (vsh q) h⟩
theorem id_S {t : Str} {i : Int} {d : Nat} (hl : t.length ≤ sizeLine) (e : atI t.cps.toList i = some d) (h : Q (.sh (.str ⟨#[d]⟩)) z) : ID X (.sh (.str t)) (.sh (.int i)) z Q := fun c w σ v u k b r1 r2 hk => by
  cases Dp_str r1
  cases Dp_int r2
  exact ixB_of ix_str ⟨t, i, d, rfl, rfl, hl, e, hk _ _ w z b (.refl w) (vS _) h⟩
theorem id_O {n : Nat} {xs : List Sl} {i : Int} {y : Sl} (ho : z.ob[n]? = some (.lst xs)) (e : atI xs i = some y) (h : Q y z) : ID X (.ob n) (.sh (.int i)) z Q := fun c w σ v u k b r1 r2 hk => by
  obtain ⟨p, hp, rfl⟩ := r1
  cases Dp_int r2
  obtain ⟨_, vs, hH, hv⟩ := b.ob n _ p ho hp
  obtain ⟨x, e1, q⟩ := atI_paired hv e
  exact ixB_of ix_list ⟨p, vs, i, x, rfl, rfl, .inl (.inl hH), e1, hk _ _ w z b (.refl w) q h⟩
/-! slices -/
def slB (X : Cy) : V → Option Int → Option Int → Hp → VK → Prop := fun x lo hi H Q => ∀ (pins : List (Addr × Obj)) (s : Shared) (σ : St) (v vl vu : Value) (sl : Addr), Inv X pins σ H s → RelV x v → s.heap.IsSliceOf sl vl vu .none → IsPart vl lo → IsPart vu hi →
    ∃ T id, typeLookup (.type T) "__getitem__" = pure (some (.builtin id)) ∧ s.TypeIs v T ∧ wpAny (model X.prog X.w) X.A (getItem v (.ref sl)) (EP X pins σ Q) X.xe s
theorem slB_op : SlR X (slB X) := fun pins s σ _ _ v vl vu lo hi sl _ I rx h1 h2 h3 h => h pins s σ v vl vu sl I rx h1 h2 h3
theorem slB_of {r : V → Option Int → Option Int → Hp → VK → Prop} {H : Hp} {x : V} {lo hi : Option Int} {k : VK} (o : SlR X r) (h : r x lo hi H k) : slB X x lo hi H k := fun pins s σ v vl vu sl I rx h1 h2 h3 => o pins s σ H x v vl vu lo hi sl k I rx h1 h2 h3 h
def SD (X : Cy) (x : Sl) (lo hi : Option Int) (z : Z) (Q : Sl → Z → Prop) : Prop := ∀ (c : CtX X) w σ v k, B X.K c w σ z → Vl X.K w v x → Cont X.K c w σ Q k → slB X v lo hi w.H k
def WO (X : Cy) (o : Option Expr) (z : Z) (Q : Option Int → Z → Prop) : Prop := match o with
  | none => Q none z
  | some e => WE X e z fun x z1 => ∃ i, x = .sh (.int i) ∧ Q (some i) z1
def tO (X : Cy) : Option Expr → TO
  | none => tNoPart
  | some e => tPart (tE X e)
theorem poB : ∀ {o : Option Expr}, PO X o (tO X o)
  | none => po_none
  | some _ => po_some peB
theorem wo_ok {P : Option Int → Z → Prop} : ∀ {o : Option Expr}, WO X o z P → ∀ (c : CtX X) w σ (k : Option Int → Hp → Prop), B X.K c w σ z → (∀ i w' z', B X.K c w' σ z' → w.Le w' → P i z' → k i w'.H) → tO X o σ w.H k
  | none, h, c, w, σ, k, b, hk => hk none w z b (.refl w) h
  | some _, h, c, w, σ, k, b, hk => h c w σ _ b fun v x w' z' b' l r ⟨i, e, hp⟩ => ⟨i, Dp_int (e ▸ r), hk _ w' z' b' l hp⟩
theorem wo_none {P : Option Int → Z → Prop} (h : P none z) : WO X none z P := h
theorem wo_some {P : Option Int → Z → Prop} (h : WE X a z fun x z1 => ∃ i, x = .sh (.int i) ∧ P (some i) z1) : WO X (some a) z P := h
theorem we_sl {lo hi : Option Expr} {p2 : Pos} (h : WE X a z fun x z1 => WO X lo z1 fun l z2 => WO X hi z2 fun u z3 => SD X x l u z3 Q) : WE X (.Subscript a (.Slice lo hi none p2) pos) z Q := fun c w σ k bb hk =>
  tE_of (pe_slice slB_op peB poB poB) (h c w σ _ bb fun v x w1 z1 b1 l1 q1 h1 => wo_ok h1 c w1 σ _ b1 fun i w2 z2 b2 l2 h2 => wo_ok h2 c w2 σ _ b2 fun j w3 z3 b3 l3 h3 => h3 c w3 σ v k b3 (q1.mono (l2.trans l3)) (hk.le ((l1.trans l2).trans l3)))
def cutL {α : Type} (xs : List α) (lo hi : Option Int) : List α := (xs.drop (HT.sIx xs.length 0 lo)).take (HT.sIx xs.length xs.length hi - HT.sIx xs.length 0 lo)
theorem paired_cut {α β : Type} {F : α → β → Prop} {xs : List α} {ys : List β} (h : Paired F xs ys) (lo hi : Option Int) : Paired F (cutL xs lo hi) (cutL ys lo hi) := by
  unfold cutL
  rw [h.length]
  exact paired_take _ (paired_drop _ h)
theorem sd_LF {ds : List PyData} {lo hi : Option Int} (h : Q (.sh (.list (cutL ds lo hi))) z) : SD X (.sh (.list ds)) lo hi z Q := fun c w σ v k b r1 hk => by
  obtain ⟨p, xs, rfl, h1, s1⟩ := Dp_lstI r1
  exact slB_of sl_list ⟨p, xs, rfl, .inl (Same.rd b.same h1), new_lstF b (paired_DqAll (paired_cut (DqAll_paired s1) lo hi)) hk h⟩
theorem cutL_whole {α : Type} {xs : List α} {lo hi : Option Int} (h : HT.sIx xs.length 0 lo = 0 ∧ HT.sIx xs.length xs.length hi = xs.length) : cutL xs lo hi = xs := by
  unfold cutL
  rw [h.1, h.2, List.drop_zero, Nat.sub_zero, List.take_length]
theorem sd_T {ds : List PyData} {lo hi : Option Int} (h : Q (.sh (.tuple (cutL ds lo hi))) z) : SD X (.sh (.tuple ds)) lo hi z Q := fun c w σ v k b r1 hk => by
  obtain ⟨p, xs, rfl, h1, s1⟩ := Dp_tupP r1
  have hl := DpAll_len s1
  refine slB_of sl_tupP ⟨p, xs, rfl, Same.tup b.same h1.sq, fun hw => ?_, fun _ => new_tup b (paired_DqAll (paired_cut (DqAll_paired s1) lo hi)) hk h⟩
  rw [hl] at hw
  rw [cutL_whole hw] at h
  exact hk _ _ w z b (.refl w) r1 h
theorem rd_catT {ds es : List PyData} (hc : ds.length + es.length ≤ 100000) (h : Q (.sh (.tuple (ds ++ es))) z) : RD X (binaryOp .Add) (.sh (.tuple ds)) (.sh (.tuple es)) z Q := fun c w σ v u k b r1 r2 hk => by
  obtain ⟨p, xs, rfl, h1, s1⟩ := Dp_tupP r1
  obtain ⟨q, ys, rfl, h2, s2⟩ := Dp_tupP r2
  refine rB_of op_catP ⟨p, q, xs, ys, rfl, rfl, Same.tup b.same h1.sq, Same.tup b.same h2.sq, ?_, fun e => ?_, fun _ e => ?_, fun _ _ => new_tup b (DqAll_app s1 s2) hk h⟩
  · rw [DpAll_len s1, DpAll_len s2]
    exact Nat.le_trans hc (by decide)
  · subst e
    cases s1
    exact hk _ _ w z b (.refl w) r2 h
  · subst e
    cases s2
    rw [List.append_nil] at h
    exact hk _ _ w z b (.refl w) r1 h
theorem sd_S {t : Str} {lo hi : Option Int} (hl : t.length ≤ sizeLine) (h : Q (.sh (.str (cutS t lo hi))) z) : SD X (.sh (.str t)) lo hi z Q := fun c w σ v k b r1 hk => by
  cases Dp_str r1
  exact slB_of sl_str ⟨t, rfl, hl, hk _ _ w z b (.refl w) (vS _) h⟩
end
end Dl

namespace Dl
open PySem PySem.Spec L2
open PyProof.Rows hiding St

/-! ### built-ins by name -/
section
variable {X : Cy} {x : Str} {p pos : Pos} {e : Expr} {es : List Expr} {z : Z} {Q : Sl → Z → Prop} {id T : String}
theorem we_bi (hm : X.mg x = none) (hv : bootBuiltins x = some (.builtin id)) (h : WA X (e :: es) z fun xs z1 => CD X (.builtin id) xs z1 Q) (hg : Gl X x := by rfl) (hn : x ≠ "__name__" := by decide) (hdb : (x == ("__debug__" : Str)) = false := by decide)
    (he : starEach (e :: es) X.env = (false, eval e X.env) :: starEach es X.env := by rfl) (hpl : (backTo pos (starEach es X.env)).any (·.1) = false := by rfl) : WE X (.Call (.Name x p) (e :: es) [] pos) z Q := fun c w σ k bb hk =>
  tE_of (pe_callB cB_op hg hm hv paB hn hdb he hpl) (h c w σ _ bb fun vs xs w1 z1 b1 l1 hv h1 => h1 c w1 σ vs k b1 hv (hk.le l1))
theorem we_ty (hm : X.mg x = none) (hv : bootBuiltins x = some (.type T)) (h : WA X (e :: es) z fun xs z1 => CD X (.type T) xs z1 Q) (hg : Gl X x := by rfl) (hn : x ≠ "__name__" := by decide) (hdb : (x == ("__debug__" : Str)) = false := by decide)
    (he : starEach (e :: es) X.env = (false, eval e X.env) :: starEach es X.env := by rfl) (hpl : (backTo pos (starEach es X.env)).any (·.1) = false := by rfl) : WE X (.Call (.Name x p) (e :: es) [] pos) z Q := fun c w σ k bb hk =>
  tE_of (pe_callTy cB_op hg hm hv paB hn hdb he hpl) (h c w σ _ bb fun vs xs w1 z1 b1 l1 hv h1 => h1 c w1 σ vs k b1 hv (hk.le l1))
theorem p1 {K : PySem.W.Frag} {w : Wd} {vs : List V} {x : Sl} (h : Paired (Vl K w) vs [x]) : ∃ v, vs = [v] ∧ Vl K w v x := by
  cases h with
  | cons q t =>
    cases t
    exact ⟨_, rfl, q⟩
theorem p2 {K : PySem.W.Frag} {w : Wd} {vs : List V} {x y : Sl} (h : Paired (Vl K w) vs [x, y]) : ∃ v u, vs = [v, u] ∧ Vl K w v x ∧ Vl K w u y := by
  cases h with
  | cons q t =>
    obtain ⟨u, rfl, r⟩ := p1 t
    exact ⟨_, _, rfl, q, r⟩
theorem cd_lenL {ds : List PyData} (h : Q (.sh (.int ds.length)) z) : CD X (.builtin "len") [.sh (.list ds)] z Q := fun c w σ vs k b rr hk => by
  obtain ⟨v, rfl, r⟩ := p1 rr
  obtain ⟨p, xs, rfl, h1, s1⟩ := Dp_lstI r
  refine cB_of call_len_seq ⟨p, xs, rfl, .inl (.inl (Same.rd b.same h1)), ?_⟩
  rw [DpAll_len s1]
  exact hk _ _ w z b (.refl w) (vI _) h
theorem cd_lenT {ds : List PyData} (h : Q (.sh (.int ds.length)) z) : CD X (.builtin "len") [.sh (.tuple ds)] z Q := fun c w σ vs k b rr hk => by
  obtain ⟨v, rfl, r⟩ := p1 rr
  obtain ⟨p, xs, rfl, h1, s1⟩ := Dp_tupI r
  refine cB_of call_len_seq ⟨p, xs, rfl, .inr (Same.tup b.same h1), ?_⟩
  rw [DpAll_len s1]
  exact hk _ _ w z b (.refl w) (vI _) h
theorem cd_lenS {t : Str} (hl : t.length ≤ sizeLine) (h : Q (.sh (.int t.length)) z) : CD X (.builtin "len") [.sh (.str t)] z Q := fun c w σ vs k b rr hk => by
  obtain ⟨v, rfl, r⟩ := p1 rr
  cases Dp_str r
  exact cB_of call_len_str ⟨t, rfl, hl, hk _ _ w z b (.refl w) (vI _) h⟩
theorem cd_lenO {i : Nat} {xs : List Sl} (ho : z.ob[i]? = some (.lst xs)) (h : Q (.sh (.int xs.length)) z) : CD X (.builtin "len") [.ob i] z Q := fun c w σ vs k b rr hk => by
  obtain ⟨v, rfl, p, hp, rfl⟩ := p1 rr
  obtain ⟨_, vs, hH, hv⟩ := b.ob i _ p ho hp
  refine cB_of call_len_seq ⟨p, vs, rfl, .inl (.inl (.inl hH)), ?_⟩
  rw [hv.length]
  exact hk _ _ w z b (.refl w) (vI _) h
theorem cd_abs {i : Int} (h : Q (.sh (.int (if i < 0 then -i else i))) z) : CD X (.builtin "abs") [.sh (.int i)] z Q := fun c w σ vs k b rr hk => by
  obtain ⟨v, rfl, r⟩ := p1 rr
  cases Dp_int r
  exact cB_of call_abs ⟨i, rfl, hk _ _ w z b (.refl w) (vI _) h⟩
theorem cd_max {i j : Int} (h : Q (.sh (.int (if j > i then j else i))) z) (hc : X.calm = true := by rfl) : CD X (.builtin "max") [.sh (.int i), .sh (.int j)] z Q := fun c w σ vs k b rr hk => by
  obtain ⟨v, u, rfl, r, r'⟩ := p2 rr
  cases Dp_int r
  cases Dp_int r'
  exact cB_of (call_max2 hc) ⟨i, j, rfl, hk _ _ w z b (.refl w) (vI _) h⟩
theorem cd_min {i j : Int} (h : Q (.sh (.int (if j < i then j else i))) z) (hc : X.calm = true := by rfl) : CD X (.builtin "min") [.sh (.int i), .sh (.int j)] z Q := fun c w σ vs k b rr hk => by
  obtain ⟨v, u, rfl, r, r'⟩ := p2 rr
  cases Dp_int r
  cases Dp_int r'
  exact cB_of (call_min2 hc) ⟨i, j, rfl, hk _ _ w z b (.refl w) (vI _) h⟩
theorem cd_intI {i : Int} (h : Q (.sh (.int i)) z) : CD X (.type "int") [.sh (.int i)] z Q := fun c w σ vs k b rr hk => by
  obtain ⟨v, rfl, r⟩ := p1 rr
  cases Dp_int r
  exact cB_of call_int1 (.inl ⟨i, rfl, hk _ _ w z b (.refl w) (vI _) h⟩)
theorem cd_intB {i : Bool} (h : Q (.sh (.int (if i then 1 else 0))) z) : CD X (.type "int") [.sh (.bool i)] z Q := fun c w σ vs k b rr hk => by
  obtain ⟨v, rfl, r⟩ := p1 rr
  cases Dp_bl r
  exact cB_of call_int1 (.inr ⟨i, rfl, hk _ _ w z b (.refl w) (vI _) h⟩)
def bls : List PyData → Option (List Bool)
  | [] => some []
  | .bool b :: r => (bls r).map (b :: ·)
  | _ => none
theorem bls_v {K : PySem.W.Frag} {H : Hp} : ∀ {ds : List PyData} {vs : List V} {bs : List Bool}, bls ds = some bs → DqAll K H vs ds → vs = bs.map V.bl
  | [], _, _, e, .nil => by
    cases e
    rfl
  | .bool b :: r, _, _, e, .cons q t => by
    unfold bls at e
    obtain ⟨bs, e1, rfl⟩ := Option.map_eq_some_iff.mp e
    rw [bls_v e1 t, Dp_bl q]
    rfl
theorem bls_map (bs : List Bool) : bls (bs.map PyData.bool) = some bs := by
  induction bs with
  | nil => rfl
  | cons b r ih =>
    show (bls (r.map PyData.bool)).map (b :: ·) = _
    rw [ih]
    rfl
theorem cd_all {ds : List PyData} {bs : List Bool} (e : bls ds = some bs) (h : Q (.sh (.bool (bs.all _root_.id))) z) (hc : X.calm = true := by rfl) : CD X (.builtin "all") [.sh (.list ds)] z Q := fun c w σ vs k b rr hk => by
  obtain ⟨v, rfl, r⟩ := p1 rr
  obtain ⟨p, xs, rfl, h1, s1⟩ := Dp_lstI r
  rw [bls_v e s1] at h1
  exact cB_of (cr_all hc) ⟨p, bs, rfl, .inl (Same.rd b.same h1), hk _ _ w z b (.refl w) (vB _) h⟩
theorem cd_any {ds : List PyData} {bs : List Bool} (e : bls ds = some bs) (h : Q (.sh (.bool (bs.any _root_.id))) z) (hc : X.calm = true := by rfl) : CD X (.builtin "any") [.sh (.list ds)] z Q := fun c w σ vs k b rr hk => by
  obtain ⟨v, rfl, r⟩ := p1 rr
  obtain ⟨p, xs, rfl, h1, s1⟩ := Dp_lstI r
  rw [bls_v e s1] at h1
  exact cB_of (cr_any hc) ⟨p, bs, rfl, .inl (Same.rd b.same h1), hk _ _ w z b (.refl w) (vB _) h⟩
theorem cd_listL {ds : List PyData} (h : Q (.sh (.list ds)) z) : CD X (.type "list") [.sh (.list ds)] z Q := fun c w σ vs k b rr hk => by
  obtain ⟨v, rfl, r⟩ := p1 rr
  obtain ⟨p, xs, rfl, h1, s1⟩ := Dp_lstI r
  exact cB_of call_list_of ⟨p, xs, rfl, .inl (.inl (Same.rd b.same h1)), new_lstF b s1 hk h⟩
theorem cd_listT {ds : List PyData} (h : Q (.sh (.list ds)) z) : CD X (.type "list") [.sh (.tuple ds)] z Q := fun c w σ vs k b rr hk => by
  obtain ⟨v, rfl, r⟩ := p1 rr
  obtain ⟨p, xs, rfl, h1, s1⟩ := Dp_tupI r
  exact cB_of call_list_of ⟨p, xs, rfl, .inr (Same.tup b.same h1), new_lstF b s1 hk h⟩
theorem cd_tupL {ds : List PyData} (h : Q (.sh (.tuple ds)) z) : CD X (.type "tuple") [.sh (.list ds)] z Q := fun c w σ vs k b rr hk => by
  obtain ⟨v, rfl, r⟩ := p1 rr
  obtain ⟨p, xs, rfl, h1, s1⟩ := Dp_lstI r
  exact cB_of call_tupleP ⟨p, xs, rfl, .inl ⟨.inl (Same.rd b.same h1), new_tup b s1 hk h⟩⟩
theorem cd_tupT {ds : List PyData} (h : Q (.sh (.tuple ds)) z) : CD X (.type "tuple") [.sh (.tuple ds)] z Q := fun c w σ vs k b rr hk => by
  obtain ⟨v, rfl, r⟩ := p1 rr
  obtain ⟨p, xs, rfl, h1, s1⟩ := Dp_tupP r
  exact cB_of call_tupleP ⟨p, xs, rfl, .inr ⟨Same.tup b.same h1.sq, hk _ _ w z b (.refl w) (vsh (Dq.tup h1 s1)) h⟩⟩
theorem DqAll_ints {K : PySem.W.Frag} {H : Hp} : ∀ (ns : List Int), DqAll K H (ns.map V.int) (ns.map PyData.int)
  | [] => .nil
  | n :: ns => .cons (.int n) (DqAll_ints ns)
theorem ints_v {K : PySem.W.Frag} {H : Hp} : ∀ {ns : List Int} {vs : List V}, DqAll K H vs (ns.map PyData.int) → vs = ns.map V.int
  | [], _, .nil => rfl
  | _ :: _, _, .cons q t => by
    rw [List.map_cons, ints_v t, Dp_int q]
/-! isinstance -/
def tyName : PyData → String
  | .none => "NoneType"
  | .bool _ => "bool"
  | .int _ => "int"
  | .str _ => "str"
  | .list _ => "list"
  | .tuple _ => "tuple"
  | .dict _ => "dict"
theorem Dq.ty {K : PySem.W.Frag} {H : Hp} {v : V} {d : PyData} (h : Dq K H v d) : TyX K H v (.type (tyName d)) := by
  cases h with
  | non => exact .base .non
  | bl b => exact .base (.bl b)
  | int i => exact .base (.int i)
  | str x => exact .base (.str x)
  | lst h _ =>
    rcases h with h | ⟨o, h⟩
    · exact .base (.lst h)
    · exact .base (.frz h)
  | tup h _ =>
    rcases h with ⟨o, h, _⟩ | ⟨o, its, n, h1, h2, _⟩
    · exact .fTuple h
    · exact .kTuple h1 h2
  | dic h _ _ => exact .base (.dK h)
def Isi (x : Sl) (z : Z) (T : String) (r : Bool) : Prop := match x with
  | .sh d => kitB (tyName d) T = some r
  | .ob i => (∃ xs, z.ob[i]? = some (.lst xs)) ∧ kitB "list" T = some r
  | .no => False
  | .tp _ => False
  | .ex _ _ => False
theorem we_isi {a : Expr} {t : Str} {pt : Pos} {Ps : Bool → Prop} (hm : X.mg "isinstance" = none) (hmt : X.mg t = none) (hvt : bootBuiltins t = some (.type T)) (h : WE X a z fun y z1 => ∃ r, Isi y z1 T r ∧ Q (.sh (.bool r)) z1) (hg : Gl X "isinstance" := by rfl) (hgt : Gl X t := by rfl)
    (hnt : t ≠ "__name__" := by decide) (hdt : (t == ("__debug__" : Str)) = false := by decide)
    (he : starEach [a, .Name t pt] X.env = (false, eval a X.env) :: starEach [.Name t pt] X.env := by rfl) (he2 : starEach [.Name t pt] X.env = (false, eval (.Name t pt) X.env) :: starEach [] X.env := by rfl) (hpl : (backTo pos (starEach [.Name t pt] X.env)).any (·.1) = false := by rfl) :
    WE X (.Call (.Name "isinstance" p) [a, .Name t pt] [] pos) z Q := fun c w σ k bb hk =>
  tE_of (pe_callB call_isi hg hm boot_isinstance (pa_cons peB (pa_cons (pe_bltn (v := .ty T) hgt hmt hvt rfl hnt hdt) pa_nil he2) he) (by decide) (by decide) he hpl) (h c w σ _ bb fun v y w1 z1 b1 l1 r1 ⟨r, hi, hq⟩ => by
    have fin : k (.bl r) w1.H := hk _ _ w1 z1 b1 l1 (vB _) hq
    cases y with
    | no => exact hi.elim
    | tp _ => exact hi.elim
    | ex _ _ => exact hi.elim
    | sh d => exact ⟨v, .ty T, _, _, r, rfl, .ty T, (Dp_mono b1.same r1).ty, kit_ty hi, fin⟩
    | ob i =>
      obtain ⟨p, hp, rfl⟩ := r1
      obtain ⟨⟨xs, ho⟩, hi⟩ := hi
      obtain ⟨_, vs, hH, hv⟩ := b1.ob i _ p ho hp
      exact ⟨.ref p, .ty T, _, _, r, rfl, .ty T, .base (.lst hH), kit_ty hi, fin⟩)
/-- isinstance(x, (T, U)) -/
theorem we_isi2 {a : Expr} {t u : Str} {T U : String} {pt pu ptt : Pos} {x1} (hm : X.mg "isinstance" = none) (hmt : X.mg t = none) (hvt : bootBuiltins t = some (.type T)) (hmu : X.mg u = none) (hvu : bootBuiltins u = some (.type U))
    (h : WE X a z fun y z1 => ∃ r r', Isi y z1 T r ∧ Isi y z1 U r' ∧ Q (.sh (.bool (r || r'))) z1) (hg : Gl X "isinstance" := by rfl) (hgt : Gl X t := by rfl) (hgu : Gl X u := by rfl)
    (hnt : t ≠ "__name__" := by decide) (hdt : (t == ("__debug__" : Str)) = false := by decide) (hnu : u ≠ "__name__" := by decide) (hdu : (u == ("__debug__" : Str)) = false := by decide)
    (he : starEach [a, .Tuple [.Name t pt, .Name u pu] x1 ptt] X.env = (false, eval a X.env) :: starEach [.Tuple [.Name t pt, .Name u pu] x1 ptt] X.env := by rfl)
    (he2 : starEach [.Tuple [.Name t pt, .Name u pu] x1 ptt] X.env = (false, eval (.Tuple [.Name t pt, .Name u pu] x1 ptt) X.env) :: starEach [] X.env := by rfl)
    (he3 : starEach [.Name t pt, .Name u pu] X.env = (false, eval (.Name t pt) X.env) :: starEach [.Name u pu] X.env := by rfl) (he4 : starEach [.Name u pu] X.env = (false, eval (.Name u pu) X.env) :: starEach [] X.env := by rfl)
    (hpl : (backTo pos (starEach [.Tuple [.Name t pt, .Name u pu] x1 ptt] X.env)).any (·.1) = false := by rfl) :
    WE X (.Call (.Name "isinstance" p) [a, .Tuple [.Name t pt, .Name u pu] x1 ptt] [] pos) z Q := fun c w σ k bb hk =>
  tE_of (pe_callB call_isiT hg hm boot_isinstance (pa_cons peB (pa_cons (pe_tup (pa_cons (pe_bltn (v := .ty T) hgt hmt hvt rfl hnt hdt) (pa_cons (pe_bltn (v := .ty U) hgu hmu hvu rfl hnu hdu) pa_nil he4) he3)) pa_nil he2) he) (by decide) (by decide) he hpl) (h c w σ _ bb fun v y w1 z1 b1 l1 r1 ⟨r, r', hi, hi', hq⟩ => by
    refine ⟨show 2 ≤ sizeLine by decide, fun tp hn => ?_⟩
    have as := b1.asideNew hn
    have b2 := b1.aside (o := .tup [.ty T, .ty U]) as
    have l2 : w1.Le ⟨w1.rho, w1.S, upd w1.H tp (.tup [.ty T, .ty U])⟩ := le_aside
    have fin : k (.bl (r || r')) (upd w1.H tp (.tup [.ty T, .ty U])) := hk _ _ _ z1 b2 (l1.trans l2) (vB _) hq
    have any : ∀ {n : String}, kitB n T = some r → kitB n U = some r' → PySem.W.kitAny X.K (.type n) [.type T, .type U] = some (r || r') := fun {n} h1 h2 => by
      refine kitAny_cons (kit_ty h1) (fun e => ?_) (fun e => by rw [e]; rfl)
      rw [e, Bool.false_or]
      exact kitAny_cons (kit_ty h2) (fun e => by rw [e]; exact kitAny_nil) (fun e => e)
    cases y with
    | no => exact hi.elim
    | tp _ => exact hi.elim
    | ex _ _ => exact hi.elim
    | sh d => exact ⟨v, tp, _, _, _, _, rfl, upd_same, .cons (.ty T) (.cons (.ty U) .nil), (Dp_mono b2.same r1).ty, any hi hi', fin⟩
    | ob i =>
      obtain ⟨p, hp, rfl⟩ := r1
      obtain ⟨⟨xs, ho⟩, hi⟩ := hi
      obtain ⟨_, hi'⟩ := hi'
      obtain ⟨_, vs, hH, hv⟩ := b2.ob i _ p ho hp
      exact ⟨.ref p, tp, _, _, _, _, rfl, upd_same, .cons (.ty T) (.cons (.ty U) .nil), .base (.lst hH), any hi hi', fin⟩)
end

/-! ### methods of a list of the store -/
section
variable {X : Cy} {o e : Expr} {es : List Expr} {name : Str} {apos cpos : Pos} {id : String} {z : Z} {Q : Sl → Z → Prop}
def MO (X : Cy) (id : String) (i : Nat) (ys : List Sl) (z : Z) (Q : Sl → Z → Prop) : Prop := ∀ (c : CtX X) w σ p vs k, B X.K c w σ z → w.rho[i]? = some p → Paired (Vl X.K w) vs ys → Cont X.K c w σ Q k → mB X id (.ref p) vs w.H k
theorem we_mO (slot : Slot "list" name id) (hty : typeOf (.builtin id) = pure (.type "method_descriptor")) (h : WE X o z fun x z1 => ∃ i xs, x = .ob i ∧ z1.ob[i]? = some (.lst xs) ∧ WA X (e :: es) z1 fun ys z2 => MO X id i ys z2 Q)
    (hbase : attributeBase o name X.env (eval o X.env) = eval o X.env := by rfl)
    (hfew : ((backTo cpos (starEach (e :: es) X.env)).all (fun x => !x.1) && (backToKw cpos (keywordEach [] X.env)).all (fun x => x.1.isSome)
      && decide ((e :: es).length + ([] : List Keyword).length + (if ([] : List Keyword).isEmpty then 0 else 1) < 30)) = true := by rfl)
    (hline : (apos.endLine == cpos.line) = true := by rfl) (hs : starEach (e :: es) X.env = (false, eval e X.env) :: starEach es X.env := by rfl) (hplain : (backTo cpos (starEach es X.env)).any (·.1) = false := by rfl) :
    WE X (.Call (.Attribute o name apos) (e :: es) [] cpos) z Q := fun c w σ k bb hk =>
  tE_of (pe_bm F.plainAttrs_list slot hty mB_op peB paB hbase hfew hline hs hplain) (h c w σ _ bb fun v x w1 z1 b1 l1 r1 ⟨i, xs, e1, ho, h1⟩ => by
    subst e1
    obtain ⟨p, hp, rfl⟩ := r1
    obtain ⟨_, vs, hH, hv⟩ := b1.ob i _ p ho hp
    exact ⟨.inl ⟨rfl, vs, .inl (.inl hH)⟩, h1 c w1 σ _ b1 fun us ys w2 z2 b2 l2 r2 h2 => h2 c w2 σ p us k b2 (l2.rho i p hp) r2 (hk.le (l1.trans l2))⟩)
theorem we_mO0 (slot : Slot "list" name id) (hty : typeOf (.builtin id) = pure (.type "method_descriptor")) (h : WE X o z fun x z1 => ∃ i xs, x = .ob i ∧ z1.ob[i]? = some (.lst xs) ∧ MO X id i [] z1 Q)
    (hbase : attributeBase o name X.env (eval o X.env) = eval o X.env := by rfl) (hline : (apos.endLine == cpos.line) = true := by rfl) : WE X (.Call (.Attribute o name apos) [] [] cpos) z Q := fun c w σ k bb hk =>
  tE_of (pe_bm0 F.plainAttrs_list slot hty mB_op peB hbase hline) (h c w σ _ bb fun v x w1 z1 b1 l1 r1 ⟨i, xs, e1, ho, h1⟩ => by
    subst e1
    obtain ⟨p, hp, rfl⟩ := r1
    obtain ⟨_, vs, hH, hv⟩ := b1.ob i _ p ho hp
    exact ⟨.inl ⟨rfl, vs, .inl (.inl hH)⟩, h1 c w1 σ p [] k b1 hp .nil (hk.le l1)⟩)
theorem mo_append {i : Nat} {xs : List Sl} {y : Sl} (ho : z.ob[i]? = some (.lst xs)) (hl : xs.length < 100000) (h : Q (.sh .none) ⟨z.sl, z.ob.set i (.lst (xs ++ [y]))⟩) : MO X "list.append" i [y] z Q := fun c w σ p vs k b hp rr hk => by
  obtain ⟨v, rfl, r⟩ := p1 rr
  obtain ⟨_, us, hH, hv⟩ := b.ob i _ p ho hp
  refine mB_of mt_append ⟨p, us, v, rfl, rfl, hH, ?_, hk _ _ _ _ (b.setO ho hp (hv.snoc r)) le_set vN h⟩
  rw [hv.length]
  exact Nat.lt_of_lt_of_le hl (by decide)
theorem dropLast_paired {α β : Type} {F : α → β → Prop} : ∀ {xs : List α} {ys : List β}, Paired F xs ys → Paired F xs.dropLast ys.dropLast
  | _, _, .nil => .nil
  | _, _, .cons q .nil => .nil
  | _, _, .cons q (.cons q' t) => .cons q (dropLast_paired (.cons q' t))
theorem mo_pop {i : Nat} {xs : List Sl} {y : Sl} (ho : z.ob[i]? = some (.lst (xs ++ [y]))) (h : Q y ⟨z.sl, z.ob.set i (.lst xs)⟩) : MO X "list.pop" i [] z Q := fun c w σ p vs k b hp rr hk => by
  cases rr
  obtain ⟨_, us, hH, hv⟩ := b.ob i _ p ho hp
  have hl := hv.length
  rw [List.length_append, List.length_singleton] at hl
  obtain ⟨v, e1, q⟩ := paired_get (i := xs.length) hv (by rw [List.getElem?_append_right (Nat.le_refl _), Nat.sub_self]; rfl)
  have hd := dropLast_paired hv
  rw [List.dropLast_concat] at hd
  refine mB_of mt_pop ⟨p, us, v, rfl, rfl, hH, by rw [hl]; exact e1, hk _ _ _ _ (b.setO ho hp hd) le_set (q.mono le_set) h⟩
theorem mo_reverse {i : Nat} {xs : List Sl} (ho : z.ob[i]? = some (.lst xs)) (h : Q (.sh .none) ⟨z.sl, z.ob.set i (.lst xs.reverse)⟩) : MO X "list.reverse" i [] z Q := fun c w σ p vs k b hp rr hk => by
  cases rr
  obtain ⟨_, us, hH, hv⟩ := b.ob i _ p ho hp
  exact mB_of mt_reverse ⟨p, us, rfl, rfl, hH, hk _ _ _ _ (b.setO ho hp (paired_rev hv)) le_set vN h⟩
theorem rExtR : MtM X "list.extend" (fun x vs H Q => ∃ l b xs zs, x = .ref l ∧ vs = [.ref b] ∧ H l = some (.lst xs) ∧ Rd H b (.lst zs) ∧ xs.length + zs.length ≤ sizeLine ∧ Q .non (upd H l (.lst (xs ++ zs)))) := by
  intro pins s σ H x vs v us Q I rx rv h
  obtain ⟨l, b, xs, zs, rfl, rfl, hH, hB, hz, q⟩ := h
  cases rx
  obtain ⟨u, rfl, ru⟩ := rv.one
  cases ru
  obtain ⟨z, its, n, r, hl, e⟩ := I.lstM hH
  obtain ⟨z2, its2, n2, r2, e2⟩ := hB.ok I.hok
  have hl2 := r2.length
  have hsz : its.toArray.size + its2.toArray.size ≤ sizeLine := by rw [List.size_toArray, List.size_toArray]; omega
  have hlong : ¬ (!its.toArray.isEmpty && Builtin.List.listTooLong (its.toArray.size + its2.toArray.size)) = true := by
    rw [notLongL hsz, Bool.and_false]
    exact Bool.false_ne_true
  refine call_meets F.slot_list_extend ⟨_, e, rfl⟩ F.entry_list_extend (F.args_list_extend_2 _ _)
    (AutoSeq1.list_extend_list_list_0 l its.toArray n b its2.toArray n2 hlong (by rw [List.size_toArray]; omega) (by omega)) ⟨e, e2, ?_⟩
  refine ⟨.non, _, I.lset (its' := its ++ its2) hH e (by simp) (r.append r2) ?_, rfl, q⟩
  rw [List.length_append]
  omega
theorem mo_extendF {i : Nat} {xs : List Sl} {ds : List PyData} (ho : z.ob[i]? = some (.lst xs)) (hl : xs.length + ds.length ≤ 100000) (h : Q (.sh .none) ⟨z.sl, z.ob.set i (.lst (xs ++ ds.map .sh))⟩) : MO X "list.extend" i [.sh (.list ds)] z Q := fun c w σ p vs k b hp rr hk => by
  obtain ⟨v, rfl, r⟩ := p1 rr
  obtain ⟨_, us, hH, hv⟩ := b.ob i _ p ho hp
  obtain ⟨q, zs, rfl, h1, s1⟩ := Dp_lstI r
  refine mB_of rExtR ⟨p, q, us, zs, rfl, rfl, hH, Same.rd b.same h1, ?_, hk _ _ _ _ (b.setO ho hp (paired_app hv (dp_allSh s1))) le_set vN h⟩
  rw [hv.length, DpAll_len s1]
  exact Nat.le_trans hl (by decide)
end
end Dl

namespace Dl
open PySem PySem.Spec L2
open PyProof.Rows hiding St

/-! ### stores -/
section
variable {X : Cy} {o i e : Expr} {z : Z} {pos tpos : Pos} {Q : Out → Prop}
theorem w1_setIx (h : WE X e z fun x z1 => WE X o z1 fun y z2 => WE X i z2 fun u z3 => ∃ n xs k j, y = .ob n ∧ z3.ob[n]? = some (.lst xs) ∧ u = .sh (.int k) ∧ ixN xs.length k = some j ∧ Q (.nx ⟨z3.sl, z3.ob.set n (.lst (xs.set j x))⟩))
    (ha : ∀ v, assign (.Subscript o i tpos) X.env v = (do
      let ov ← holding [v] (eval o X.env)
      let iv ← holding [v, ov] (eval i X.env)
      standAt tpos
      holding [v, ov, iv] (setItem ov iv v)
      release [v, ov, iv] []) := by intro _; rfl)
    (hs : swapsWithSole [.Subscript o i tpos] e pos.line X.env = pure false := by rfl) (hw : swappedStores [.Subscript o i tpos] e X.env = pure none := by rfl)
    (h1 : (assignEach [.Subscript o i tpos] X.env).map (·.2) = [assign (.Subscript o i tpos) X.env] := by rfl) : W1 X (.Assign [.Subscript o i tpos] e pos) z Q := fun c w σ D bb hk =>
  tS_of (ps_asg peB (pg_sub peB peB set_list ha) hs hw h1) (h c w σ _ bb fun v x w1 z1 b1 l1 r1 h1 => h1 c w1 σ _ b1 fun u y w2 z2 b2 l2 r2 h2 => h2 c w2 σ _ b2 fun t s w3 z3 b3 l3 r3 ⟨n, xs, kk, j, e1, ho, e2, hj, hq⟩ => by
    subst e1 e2
    obtain ⟨p, hp, rfl⟩ := r2.mono l3
    cases Dp_int r3
    obtain ⟨_, vs, hH, hv⟩ := b3.ob n _ p ho hp
    exact ⟨p, vs, kk, j, rfl, rfl, hH, by rw [hv.length]; exact hj, hk.nx _ σ _ (b3.setO ho hp (paired_set (r1.mono (l2.trans l3)) j hv)) (((l1.trans l2).trans l3).trans le_set) hq⟩)
/-- a, b = e: a tuple taken apart -/
theorem pgs_names : ∀ {is : List Nat} {ts : List Expr}, Paired (fun (i : Nat) (t : Expr) => PG X t (gName i) ∧ (∀ ts, assignEach (t :: ts) X.env = (false, assign t X.env) :: assignEach ts X.env)) is ts → PGs X ts (gNames is)
  | _, _, .nil => pgs_nil
  | _, _, .cons h t => pgs_cons h.1 (pgs_names t) (by rw [h.2]; rfl)
theorem w1_asgT {tg : Expr} {g : TG} {vs : List Nat} (hg : PG X tg g) (h : WE X e z fun x z1 => GD X.K vs g x z1 fun z2 => Q (.nx z2)) (hs : swapsWithSole [tg] e pos.line X.env = pure false := by rfl) (hw : swappedStores [tg] e X.env = pure none := by rfl)
    (h1 : (assignEach [tg] X.env).map (·.2) = [assign tg X.env] := by rfl) : W1 X (.Assign [tg] e pos) z Q := fun c w σ D bb hk =>
  tS_of (ps_asg peB hg hs hw h1) (h c w σ _ bb fun v x w1 z1 b1 l1 r1 hd => hd c w1 σ v _ b1 r1 fun w2 σ2 z2 b2 l2 _ hq => hk.nx w2 σ2 z2 b2 (l1.trans l2) hq)
/-- a, b = x, y -/
theorem w1_par {n m : Nat} {x y : Str} {a b : Expr} {px py pt : Pos} {kt k2 pt2} (hN : X.N.Nodup) (hi : X.N[n]? = some x) (hj : X.N[m]? = some y) (hij : n ≠ m)
    (h : WE X a z fun u z1 => WE X b z1 fun v z2 => Q (.nx ⟨(z2.sl.set n u).set m v, z2.ob⟩))
    (hw : swappedStores [.Tuple [.Name x px, .Name y py] kt pt] (.Tuple [a, b] k2 pt2) X.env = pure (some [x, y]) := by rfl)
    (hs : swapsWithSole [.Tuple [.Name x px, .Name y py] kt pt] (.Tuple [a, b] k2 pt2) pos.line X.env = pure false := by rfl)
    (hx : X.env.scope.names.lookup x = some .local := by rfl) (hy : X.env.scope.names.lookup y = some .local := by rfl) (hc : X.calm = true := by rfl)
    (he : starEach [a, b] X.env = (false, eval a X.env) :: starEach [b] X.env := by rfl) (he2 : starEach [b] X.env = (false, eval b X.env) :: starEach [] X.env := by rfl) :
    W1 X (.Assign [.Tuple [.Name x px, .Name y py] kt pt] (.Tuple [a, b] k2 pt2) pos) z Q := fun c w σ D bb hk =>
  tS_of (ps_par hc hN hi hj hij hx hy (pa_cons peB (pa_cons peB pa_nil he2) he) hw hs) (h c w σ _ bb fun v x w1 z1 b1 l1 r1 h1 => h1 c w1 σ _ b1 fun u y w2 z2 b2 l2 r2 hq =>
    ⟨v, u, rfl, hk.nx w2 _ _ ((b2.setSl (r1.mono l2)).setSl r2) (l1.trans l2) hq⟩)
end

/-! ### zip, tuples made on the way -/
section
variable {X : Cy} {e e2 : Expr} {z : Z} {pos p tpos : Pos} {elts : List Expr} {kk : Nat} {R : List Sl → (Z → Prop) → Z → Prop}
def zipD : List PyData → List PyData → List (List PyData)
  | a :: as, b :: bs => [a, b] :: zipD as bs
  | _, _ => []
theorem zipD_get : ∀ {as bs : List PyData} {i : Nat} {d : List PyData}, (zipD as bs)[i]? = some d → ∃ a b, as[i]? = some a ∧ bs[i]? = some b ∧ d = [a, b]
  | [], _, _, _, h => by simp [zipD] at h
  | _ :: _, [], _, _, h => by simp [zipD] at h
  | a :: as, b :: bs, 0, d, h => by
    simp only [zipD, List.getElem?_cons_zero, Option.some.injEq] at h
    exact ⟨a, b, rfl, rfl, h.symm⟩
  | a :: as, b :: bs, i + 1, d, h => by
    simp only [zipD, List.getElem?_cons_succ] at h
    obtain ⟨x, y, h1, h2, h3⟩ := zipD_get h
    exact ⟨x, y, by simpa using h1, by simpa using h2, h3⟩
theorem zipD_len : ∀ (as bs : List PyData), (zipD as bs).length = min as.length bs.length
  | [], _ => by simp [zipD]
  | _ :: _, [] => by simp [zipD]
  | a :: as, b :: bs => by
    simp only [zipD, List.length_cons, zipD_len as bs]
    omega
/-- two lists, or two tuples -/
inductive TwoSeq : Sl → Sl → List PyData → List PyData → Prop
  | ls (as bs : List PyData) : TwoSeq (.sh (.list as)) (.sh (.list bs)) as bs
  | ts (as bs : List PyData) : TwoSeq (.sh (.tuple as)) (.sh (.tuple bs)) as bs
theorem pair_new {K : PySem.W.Frag} {c : Ct} {w : Wd} {σ : St} {T : Addr} {x y : V} {a b : PyData} (bb : B K c w σ z) (hT : w.H T = none) (h1 : Dq K w.S x a) (h2 : Dq K w.S y b) :
    ∃ w', w'.H = upd w.H T (.tup [x, y]) ∧ B K c w' σ z ∧ w.Le w' ∧ Vl K w' (.ref T) (.tp [a, b]) := by
  have l : w.Le ⟨w.rho, upd w.S T (.tup [x, y]), upd w.H T (.tup [x, y])⟩ := le_new (bb.freshS hT)
  exact ⟨_, rfl, bb.newS hT, l, T, [x, y], rfl, .inl (.inl upd_same), .cons (Dp_mono l.st h1) (.cons (Dp_mono l.st h2) .nil)⟩
theorem wi_zip (hm : X.mg "zip" = none) (h : WE X e z fun x z1 => WE X e2 z1 fun y z2 => ∃ as bs, TwoSeq x y as bs ∧ R ((zipD as bs).map .tp) (fun _ => True) z2) (hg : Gl X "zip" := by rfl)
    (hs : starEach [e, e2] X.env = (false, eval e X.env) :: starEach [e2] X.env := by rfl) (hs2 : starEach [e2] X.env = (false, eval e2 X.env) :: starEach [] X.env := by rfl) (hpl : (backTo pos (starEach [e2] X.env)).any (·.1) = false := by rfl) :
    WI X (.Tuple elts kk tpos) (.Call (.Name "zip" p) [e, e2] [] pos) z R := fun c w σ k bb hk =>
  tI_of (RZ.pi_zipA hg hm (pa_cons peB (pa_cons peB pa_nil hs2) hs) hs hpl) (h c w σ _ bb fun v x w1 z1 b1 l1 r1 h1 => h1 c w1 σ _ b1 fun u y w2 z2 b2 l2 r2 ⟨as, bs, ht, hR⟩ => by
    have r1 := r1.mono l2
    have hlen : ((zipD as bs).map Sl.tp).length = min as.length bs.length := by rw [List.length_map, zipD_len]
    cases ht with
    | ls =>
      obtain ⟨a, xs, rfl, h1, s1⟩ := Dp_lstI r1
      obtain ⟨b, ys, rfl, h2, s2⟩ := Dp_lstI r2
      have e1 := DpAll_len s1
      have e2 := DpAll_len s2
      refine ⟨a, b, xs, ys, rfl, .inl ⟨.inl (Same.rd b2.same h1), .inl (Same.rd b2.same h2), hk _ _ _ w2 z2 b2 (l1.trans l2) ⟨fun i c' w3 σ3 z3 hi b3 l3 _ => ?_, fun c' w3 σ3 z3 b3 l3 _ => ?_, fun i c' w3 σ3 z3 x H' y hy b3 l3 _ hyl => ?_⟩ hR⟩⟩
      · rw [hlen] at hi
        exact ⟨xs, ys, xs[i]'(by omega), ys[i]'(by omega), .inl (Same.rd b3.same (Same.rd l3.st h1)), .inl (Same.rd b3.same (Same.rd l3.st h2)), List.getElem?_eq_getElem _, List.getElem?_eq_getElem _⟩
      · rw [hlen]
        exact ⟨xs, ys, .inl (Same.rd b3.same (Same.rd l3.st h1)), .inl (Same.rd b3.same (Same.rd l3.st h2)), by omega⟩
      · obtain ⟨T, x1, x2, rfl, hT, rfl, f1, f2⟩ := hyl
        rw [List.getElem?_map] at hy
        obtain ⟨d, hd, rfl⟩ := Option.map_eq_some_iff.mp hy
        obtain ⟨da, db, g1, g2, rfl⟩ := zipD_get hd
        obtain ⟨v1, q1, t1⟩ := paired_get (DqAll_paired s1) g1
        obtain ⟨v2, q2, t2⟩ := paired_get (DqAll_paired s2) g2
        have e3 := f1 xs (.inl (Same.rd b3.same (Same.rd l3.st h1)))
        have e4 := f2 ys (.inl (Same.rd b3.same (Same.rd l3.st h2)))
        rw [q1] at e3
        rw [q2] at e4
        cases e3
        cases e4
        exact pair_new b3 hT (Dp_mono l3.st t1) (Dp_mono l3.st t2)
    | ts =>
      obtain ⟨a, xs, rfl, h1, s1⟩ := Dp_tupI r1
      obtain ⟨b, ys, rfl, h2, s2⟩ := Dp_tupI r2
      have e1 := DpAll_len s1
      have e2 := DpAll_len s2
      refine ⟨a, b, xs, ys, rfl, .inr ⟨Same.tup b2.same h1, Same.tup b2.same h2, hk _ _ _ w2 z2 b2 (l1.trans l2) ⟨fun i c' w3 σ3 z3 hi b3 l3 _ => ?_, fun c' w3 σ3 z3 b3 l3 _ => ?_, fun i c' w3 σ3 z3 x H' y hy b3 l3 _ hyl => ?_⟩ hR⟩⟩
      · rw [hlen] at hi
        exact ⟨xs, ys, xs[i]'(by omega), ys[i]'(by omega), Same.tup b3.same (Same.tup l3.st h1), Same.tup b3.same (Same.tup l3.st h2), List.getElem?_eq_getElem _, List.getElem?_eq_getElem _⟩
      · rw [hlen]
        exact ⟨xs, ys, Same.tup b3.same (Same.tup l3.st h1), Same.tup b3.same (Same.tup l3.st h2), by omega⟩
      · obtain ⟨T, x1, x2, rfl, hT, rfl, f1, f2⟩ := hyl
        rw [List.getElem?_map] at hy
        obtain ⟨d, hd, rfl⟩ := Option.map_eq_some_iff.mp hy
        obtain ⟨da, db, g1, g2, rfl⟩ := zipD_get hd
        obtain ⟨v1, q1, t1⟩ := paired_get (DqAll_paired s1) g1
        obtain ⟨v2, q2, t2⟩ := paired_get (DqAll_paired s2) g2
        have e3 := f1 xs (Same.tup b3.same (Same.tup l3.st h1))
        have e4 := f2 ys (Same.tup b3.same (Same.tup l3.st h2))
        rw [q1] at e3
        rw [q2] at e4
        cases e3
        cases e4
        exact pair_new b3 hT (Dp_mono l3.st t1) (Dp_mono l3.st t2))
end

/-! ### the box that is drawn from -/
structure Bx where
  a : Int
  s : Int
  c : Int
def Bx.ds (b : Bx) : List PyData := [.int b.a, .int b.s, .int b.c]
def Bx.o (b : Bx) : OO := .lst [.sh (.int b.a), .sh (.int b.s), .sh (.int b.c)]
structure Bx.Ok (b : Bx) (n : Nat) : Prop where
  a0 : 0 ≤ b.a
  s0 : 0 ≤ b.s
  s1 : b.s < 1099511627776
  c0 : 0 ≤ b.c
  c1 : b.c + (n : Int) ≤ 1099511627776
theorem Bx.Ok.mono {b : Bx} {n m : Nat} (h : b.Ok n) (l : m ≤ n) : b.Ok m := ⟨h.a0, h.s0, h.s1, h.c0, by have := h.c1; omega⟩
/-- behind at most n draws -/
structure Bx.Le (b b' : Bx) (n : Nat) : Prop where
  ok : b'.Ok 0
  le : b'.c ≤ b.c + (n : Int)
theorem Bx.Le.trans {b b1 b2 : Bx} {n m : Nat} (h : b.Le b1 n) (k : b1.Le b2 m) : b.Le b2 (n + m) := ⟨k.ok, by have := h.le; have := k.le; omega⟩
theorem Bx.Le.mono {b b1 : Bx} {n m : Nat} (h : b.Le b1 n) (k : n ≤ m) : b.Le b1 m := ⟨h.ok, by have := h.le; omega⟩
theorem Bx.Ok.after {b b' : Bx} {n m k : Nat} (h : b.Ok n) (l : b.Le b' m) (hk : m + k ≤ n) : b'.Ok k := ⟨l.ok.a0, l.ok.s0, l.ok.s1, l.ok.c0, by have := h.c1; have := l.le; omega⟩
/-- a box first, then data: by what is asked of the data, how many draws, what is told -/
def BoxD (Pre : List PyData → Prop) (cost : List PyData → Nat) (Post : List PyData → PyData → Prop) : Rl := fun xs om Q => ∃ (b : Bx) (ds : List PyData), xs = .ob 0 :: ds.map .sh ∧ om = [b.o] ∧ b.Ok (cost ds) ∧ Pre ds ∧
  ∀ d b', Post ds d → b.Le b' (cost ds) → Q (.sh d) [b'.o]
section
variable {X : Cy} {x : Str} {p pos : Pos} {e : Expr} {es : List Expr} {z : Z} {Q : Sl → Z → Prop} {k kk : Nat} {ps : List Str}
theorem Bx.allSh (b : Bx) : Dl.allSh [.sh (.int b.a), .sh (.int b.s), .sh (.int b.c)] = some b.ds := rfl
theorem we_callX {Pre : List PyData → Prop} {cost : List PyData → Nat} {Post : List PyData → PyData → Prop} (G : Df X.prog X.w X.K X.mg X.base x k ps (BoxD Pre cost Post)) (hr : RoomG kk X.A) (hle : k ≤ kk)
    (h : WA X (e :: es) z fun xs z1 => ∃ i ys ds b, xs = .ob i :: ys ∧ Dl.allSh ys = some ds ∧ z1.ob[i]? = some (Bx.o b) ∧ b.Ok (cost ds) ∧ Pre ds ∧ xs.length = ps.length ∧ ∀ d b', Post ds d → b.Le b' (cost ds) → Q (.sh d) ⟨z1.sl, z1.ob.set i b'.o⟩)
    (hg : Gl X x := by rfl) (hd : (x == ("__debug__" : Str)) = false := by decide) (he : starEach (e :: es) X.env = (false, eval e X.env) :: starEach es X.env := by rfl)
    (hpl : (backTo pos (starEach es X.env)).any (·.1) = false := by rfl) : WE X (.Call (.Name x p) (e :: es) [] pos) z Q := by
  obtain ⟨f, fd, G, hm, hk, hb⟩ := G.ex
  refine fun c w σ kk bb hkk => tE_of (pe_callG G (hr.mono hle) hg hm hk hb pass0x paB hd he hpl) (h c w σ _ bb fun vs xs w1 z1 b1 l1 hv ⟨i, ys, ds, bx, e1, hx, ho, hok, hP, hn, hQ⟩ => ?_)
  subst e1
  rw [List.append_nil]
  have hk2 := hkk.le l1
  cases hv with
  | cons h1 ht =>
    obtain ⟨q, hp, rfl⟩ := h1
    refine ⟨by rw [List.length_cons, ht.length]; exact hn, ⟨[q], w1.S, w1.H⟩, .ob 0 :: ys, [bx.o], fun y om => ∃ d b', Post ds d ∧ bx.Le b' (cost ds) ∧ y = .sh d ∧ om = [b'.o], rfl, b1.ent1 hp ho bx.allSh, .cons ⟨q, rfl, rfl⟩ ?_,
      ⟨bx, ds, by rw [allSh_eq hx], rfl, hok, hP, fun d b' h1 h2 => ⟨d, b', h1, h2, rfl, rfl⟩⟩, fun y om' v w' hq b' r => ?_⟩
    · rw [allSh_eq hx]
      exact dp_allSh (w := ⟨[q], w1.S, w1.H⟩) (allSh_dp (w := w1) hx ht)
    · obtain ⟨d, b3, hPo, hLe, rfl, rfl⟩ := hq
      obtain ⟨b2, l⟩ := b1.back1 hp b'
      refine hk2 v (.sh d) ⟨w1.rho ++ w'.rho.drop 1, w'.S, w'.H⟩ _ ?_ l r (hQ d b3 hPo hLe)
      have : z1.ob.set i (mpO1 i z1.ob.length b3.o) ++ ([] : List OO).map (mpO1 i z1.ob.length) = z1.ob.set i b3.o := by
        show z1.ob.set i b3.o ++ [] = _
        rw [List.append_nil]
      rw [this] at b2
      exact b2
end
end Dl

namespace Dl
open PySem PySem.Spec L2
open PyProof.Rows hiding St

/-! ### names by facts that are shown once -/
structure Nm (X : Cy) (x : Str) (i : Nat) : Prop where
  n : X.N[i]? = some x
  v : Vis X.env.scope x
  d : (x == ("__debug__" : Str)) = false
  c : (x == ("__classdict__" : Str)) = false
structure Ns (X : Cy) (x : Str) (i : Nat) : Prop where
  nd : X.N.Nodup
  n : X.N[i]? = some x
  l : Loc X.env.scope x
  f : X.fn x = true ∨ X.env.scope.names.lookup x = some .local
structure Gn (X : Cy) (x : Str) : Prop where
  g : Gl X x
  d : (x == ("__debug__" : Str)) = false
  n : x ≠ "__name__"
def nkB (o : Option NameKind) (k : NameKind) : Bool := match o, k with
  | some .local, .local => true
  | some .cell, .cell => true
  | some .free, .free => true
  | some .globalImplicit, .globalImplicit => true
  | _, _ => false
theorem nkB_eq {o : Option NameKind} {k : NameKind} (h : nkB o k = true) : o = some k := by
  unfold nkB at h
  split at h <;> first | rfl | cases h
def nmB (N : List Str) (sc : Scope) (p : Str × Nat) : Bool := decide (N[p.2]? = some p.1) && (nkB (sc.names.lookup p.1) .local || nkB (sc.names.lookup p.1) .cell || nkB (sc.names.lookup p.1) .free) && !(p.1 == ("__debug__" : Str)) && !(p.1 == ("__classdict__" : Str))
def nsB (N : List Str) (sc : Scope) (p : Str × Nat) : Bool := decide (N[p.2]? = some p.1) && (nkB (sc.names.lookup p.1) .local || nkB (sc.names.lookup p.1) .cell)
def gnB (sc : Scope) (x : Str) : Bool := nkB (sc.names.lookup x) .globalImplicit && !(x == ("__debug__" : Str)) && !decide (x = ("__name__" : Str))
section
variable {X : Cy} {N : List Str} {sc : Scope} {x : Str} {i : Nat}
theorem nm_of (eN : X.N = N) (es : X.env.scope = sc) (h : nmB N sc (x, i) = true) : Nm X x i := by
  unfold nmB at h
  simp only [Bool.and_eq_true, Bool.or_eq_true, decide_eq_true_eq, Bool.not_eq_true'] at h
  obtain ⟨⟨⟨h1, h2⟩, h3⟩, h4⟩ := h
  refine ⟨by rw [eN]; exact h1, ?_, h3, h4⟩
  rw [es]
  rcases h2 with (h | h) | h
  · exact .inl (nkB_eq h)
  · exact .inr (.inl (nkB_eq h))
  · exact .inr (.inr (nkB_eq h))
theorem ns_of (eN : X.N = N) (es : X.env.scope = sc) (nd : N.Nodup) (hf : ∀ y, X.fn y = true) (h : nsB N sc (x, i) = true) : Ns X x i := by
  unfold nsB at h
  simp only [Bool.and_eq_true, Bool.or_eq_true, decide_eq_true_eq] at h
  obtain ⟨h1, h2⟩ := h
  refine ⟨by rw [eN]; exact nd, by rw [eN]; exact h1, ?_, .inl (hf x)⟩
  rw [es]
  rcases h2 with h | h
  · exact .inl (nkB_eq h)
  · exact .inr (nkB_eq h)
theorem gn_of (es : X.env.scope = sc) (h : gnB sc x = true) : Gn X x := by
  unfold gnB at h
  simp only [Bool.and_eq_true, Bool.not_eq_true', decide_eq_false_iff_not] at h
  obtain ⟨⟨h1, h2⟩, h3⟩ := h
  refine ⟨?_, h2, h3⟩
  show X.env.kindOf x = some .globalImplicit
  have : X.env.kindOf x = X.env.scope.names.lookup x := rfl
  rw [this, es]
  exact nkB_eq h1
def Nms (X : Cy) : List (Str × Nat) → Prop
  | [] => True
  | p :: r => Nm X p.1 p.2 ∧ Nms X r
def Nss (X : Cy) : List (Str × Nat) → Prop
  | [] => True
  | p :: r => Ns X p.1 p.2 ∧ Nss X r
def Gns (X : Cy) : List Str → Prop
  | [] => True
  | p :: r => Gn X p ∧ Gns X r
theorem nms_of (eN : X.N = N) (es : X.env.scope = sc) : ∀ {l : List (Str × Nat)}, l.all (nmB N sc) = true → Nms X l
  | [], _ => trivial
  | p :: r, h => by
    rw [List.all_cons, Bool.and_eq_true] at h
    exact ⟨nm_of eN es h.1, nms_of eN es h.2⟩
theorem nss_of (eN : X.N = N) (es : X.env.scope = sc) (nd : N.Nodup) (hf : ∀ y, X.fn y = true) : ∀ {l : List (Str × Nat)}, l.all (nsB N sc) = true → Nss X l
  | [], _ => trivial
  | p :: r, h => by
    rw [List.all_cons, Bool.and_eq_true] at h
    exact ⟨ns_of eN es nd hf h.1, nss_of eN es nd hf h.2⟩
theorem gns_of (es : X.env.scope = sc) : ∀ {l : List Str}, l.all (gnB sc) = true → Gns X l
  | [], _ => trivial
  | p :: r, h => by
    rw [List.all_cons, Bool.and_eq_true] at h
    exact ⟨gn_of es h.1, gns_of es h.2⟩
end
def Sl.nn : Sl → Bool
  | .no => false
  | _ => true
theorem Sl.nn_ne {s : Sl} (h : s.nn = true) : s ≠ .no := by
  intro e
  subst e
  cases h
section
variable {X : Cy} {e : Expr} {es : List Expr} {z : Z} {pos p : Pos} {Q : Sl → Z → Prop} {x : Str} {i k kk : Nat} {ps : List Str}
theorem we_nm {s : Sl} (n : Nm X x i) (hs : z.sl[i]? = some s) (hx : s.nn = true) (h : Q s z) : WE X (.Name x pos) z Q := we_var n.n n.v hs (Sl.nn_ne hx) h n.d n.c
theorem w1_ns {P : Out → Prop} {pos' : Pos} (n : Ns X x i) (hs : swapsWith e (some (.Name x pos')) pos.line X.env = pure false) (h : WE X e z fun y z1 => P (.nx ⟨z1.sl.set i y, z1.ob⟩)) : W1 X (.Assign [.Name x pos'] e pos) z P := w1_set n.nd n.n n.l h hs n.f
/-- a built-in as this def sees it -/
structure Bi (X : Cy) (x : Str) (id : String) : Prop where
  g : Gn X x
  m : X.mg x = none
  v : bootBuiltins x = some (.builtin id)
structure Bt (X : Cy) (x : Str) (id : String) : Prop where
  g : Gn X x
  m : X.mg x = none
  v : bootBuiltins x = some (.type id)
theorem we_bi' {id : String} (b : Bi X x id) (h : WA X (e :: es) z fun xs z1 => CD X (.builtin id) xs z1 Q) (he : starEach (e :: es) X.env = (false, eval e X.env) :: starEach es X.env) (hpl : (backTo pos (starEach es X.env)).any (·.1) = false) : WE X (.Call (.Name x p) (e :: es) [] pos) z Q := we_bi b.m b.v h b.g.g b.g.n b.g.d he hpl
theorem we_ty' {id : String} (b : Bt X x id) (h : WA X (e :: es) z fun xs z1 => CD X (.type id) xs z1 Q) (he : starEach (e :: es) X.env = (false, eval e X.env) :: starEach es X.env) (hpl : (backTo pos (starEach es X.env)).any (·.1) = false) : WE X (.Call (.Name x p) (e :: es) [] pos) z Q := we_ty b.m b.v h b.g.g b.g.n b.g.d he hpl
theorem we_isi' {a : Expr} {t : Str} {T : String} {pt : Pos} (b : Bi X "isinstance" "isinstance") (bt : Bt X t T) (h : WE X a z fun y z1 => ∃ r, Isi y z1 T r ∧ Q (.sh (.bool r)) z1)
    (he : starEach [a, .Name t pt] X.env = (false, eval a X.env) :: starEach [.Name t pt] X.env) (he2 : starEach [.Name t pt] X.env = (false, eval (.Name t pt) X.env) :: starEach [] X.env) (hpl : (backTo pos (starEach [.Name t pt] X.env)).any (·.1) = false) :
    WE X (.Call (.Name "isinstance" p) [a, .Name t pt] [] pos) z Q := we_isi (Ps := fun _ => True) b.m bt.m bt.v h b.g.g bt.g.g bt.g.n bt.g.d he he2 hpl
theorem we_isi2' {a : Expr} {t u : Str} {T U : String} {pt pu ptt : Pos} {x1} (b : Bi X "isinstance" "isinstance") (bt : Bt X t T) (bu : Bt X u U) (h : WE X a z fun y z1 => ∃ r r', Isi y z1 T r ∧ Isi y z1 U r' ∧ Q (.sh (.bool (r || r'))) z1)
    (he : starEach [a, .Tuple [.Name t pt, .Name u pu] x1 ptt] X.env = (false, eval a X.env) :: starEach [.Tuple [.Name t pt, .Name u pu] x1 ptt] X.env)
    (he2 : starEach [.Tuple [.Name t pt, .Name u pu] x1 ptt] X.env = (false, eval (.Tuple [.Name t pt, .Name u pu] x1 ptt) X.env) :: starEach [] X.env)
    (he3 : starEach [.Name t pt, .Name u pu] X.env = (false, eval (.Name t pt) X.env) :: starEach [.Name u pu] X.env) (he4 : starEach [.Name u pu] X.env = (false, eval (.Name u pu) X.env) :: starEach [] X.env)
    (hpl : (backTo pos (starEach [.Tuple [.Name t pt, .Name u pu] x1 ptt] X.env)).any (·.1) = false) :
    WE X (.Call (.Name "isinstance" p) [a, .Tuple [.Name t pt, .Name u pu] x1 ptt] [] pos) z Q := we_isi2 b.m bt.m bt.v bu.m bu.v h b.g.g bt.g.g bu.g.g bt.g.n bt.g.d bu.g.n bu.g.d he he2 he3 he4 hpl
/-- a def as this def sees it, and the room -/
structure Cf (X : Cy) (x : Str) (k : Nat) (ps : List Str) (R : Rl) : Prop where
  g : Gn X x
  d : Df X.prog X.w X.K X.mg X.base x k ps R
theorem we_cP {F : List PyData → PyData → Prop} (c : Cf X x k ps (PureR F)) (hr : RoomG kk X.A) (hle : k ≤ kk) (h : WA X (e :: es) z fun xs z1 => ∃ ds d, allSh xs = some ds ∧ F ds d ∧ xs.length = ps.length ∧ Q (.sh d) z1)
    (he : starEach (e :: es) X.env = (false, eval e X.env) :: starEach es X.env) (hpl : (backTo pos (starEach es X.env)).any (·.1) = false) : WE X (.Call (.Name x p) (e :: es) [] pos) z Q := we_callP c.d hr hle h c.g.g c.g.d he hpl
theorem we_cN {F : List PyData → List PyData → Prop} (c : Cf X x k ps (NewR F)) (hr : RoomG kk X.A) (hle : k ≤ kk) (h : WA X (e :: es) z fun xs z1 => ∃ ds d, allSh xs = some ds ∧ F ds d ∧ xs.length = ps.length ∧ Q (.ob z1.ob.length) ⟨z1.sl, z1.ob ++ [.lst (d.map .sh)]⟩)
    (he : starEach (e :: es) X.env = (false, eval e X.env) :: starEach es X.env) (hpl : (backTo pos (starEach es X.env)).any (·.1) = false) : WE X (.Call (.Name x p) (e :: es) [] pos) z Q := we_callN c.d hr hle h c.g.g c.g.d he hpl
theorem we_cX {Pre : List PyData → Prop} {cost : List PyData → Nat} {Post : List PyData → PyData → Prop} (c : Cf X x k ps (BoxD Pre cost Post)) (hr : RoomG kk X.A) (hle : k ≤ kk)
    (h : WA X (e :: es) z fun xs z1 => ∃ i ys ds b, xs = .ob i :: ys ∧ Dl.allSh ys = some ds ∧ z1.ob[i]? = some (Bx.o b) ∧ b.Ok (cost ds) ∧ Pre ds ∧ xs.length = ps.length ∧ ∀ d b', Post ds d → b.Le b' (cost ds) → Q (.sh d) ⟨z1.sl, z1.ob.set i b'.o⟩)
    (he : starEach (e :: es) X.env = (false, eval e X.env) :: starEach es X.env) (hpl : (backTo pos (starEach es X.env)).any (·.1) = false) : WE X (.Call (.Name x p) (e :: es) [] pos) z Q := we_callX c.d hr hle h c.g.g c.g.d he hpl
end
theorem fin_sh {n : Nat} {Qd : Sl → List OO → Prop} {d : PyData} {z : Z} (hr : (z.ob.take n).all (rlO n) = true) (h : Qd (.sh d) (z.ob.take n)) : Fin n Qd (.rt (.sh d) z) := ⟨_, _, .sh d _ hr, h⟩
theorem fin_new {n k : Nat} {Qd : Sl → List OO → Prop} {xs : List Sl} {z : Z} (hk : n ≤ k) (ho : z.ob[k]? = some (.lst xs)) (hr : (z.ob.take n).all (rlO n) = true) (hx : xs.all (rlS n) = true) (h : Qd (.ob n) (z.ob.take n ++ [.lst xs])) : Fin n Qd (.rt (.ob k) z) := ⟨_, _, .new k xs _ hk ho hr hx, h⟩
theorem fin_frz {n k : Nat} {Qd : Sl → List OO → Prop} {xs : List Sl} {ds : List PyData} {z : Z} (hk : n ≤ k) (ho : z.ob[k]? = some (.lst xs)) (hr : (z.ob.take n).all (rlO n) = true) (hx : allSh xs = some ds) (h : Qd (.sh (.list ds)) (z.ob.take n)) : Fin n Qd (.rt (.ob k) z) := ⟨_, _, .frz k xs ds _ hk ho hr hx, h⟩
end Dl

namespace Dl
open PySem PySem.Spec L2
open PyProof.Rows hiding St

/-! ### a def's context as a letter -/
structure Good (X : Cy) (P : Program) (w : World) (K : PySem.W.Frag) (mg : Str → Option Value) (base : Heap) (N : List Str) (sc : Scope) (k : Nat) : Prop where
  prog : X.prog = P
  w : X.w = w
  K : X.K = K
  mg : X.mg = mg
  base : X.base = base
  N : X.N = N
  sc : X.env.scope = sc
  calm : X.calm = true
  po : PassesOwn (model X.prog X.w) X.A X.env X.xe
  room : RoomG k X.A
  knd : X.env.scope.kind = .function
  fn : ∀ y, X.fn y = true
  nd : X.N.Nodup
def relS (scope sc : Scope) : Scope := { scope with names := scope.names.map fun (n, k) => if (k == NameKind.free && sc.kind == .function && sc.names.lookup n == some .cell) then (n, NameKind.cell) else (n, k) }
theorem relS_eq {scope : Scope} {env : Env} : relabel scope env = relS scope env.scope := rfl
section
variable {P : Program} {w : World} {K : PySem.W.Frag} {mg : Str → Option Value} {base : Heap}
theorem fn_okN {x qual : Str} {st : Stmt} {f : Addr} {fd : FuncData} {N ps : List Str} {k : Nat} {R : Rl} {l l2 : List (Str × Nat)} {gl : List Str} (F : Fun K x qual st f fd) (S : FnScope N ps (defScope st))
    (nm : l.all (nmB N (defScope st)) = true) (ns : l2.all (nsB N (defScope st)) = true) (gn : gl.all (gnB (defScope st)) = true)
    (h : ∀ X : Cy, Good X P w K mg base N (defScope st) k → Nms X l → Nss X l2 → Gns X gl → ∀ xs om Qd, xs.length = ps.length → R xs om Qd →
      WS X (defBody st) ⟨xs ++ List.replicate (N.length - xs.length) .no, om⟩ (Fin om.length Qd)) : FnG P w K mg base CX0 (k + 1) f fd ps (spD K ps.length R) := by
  refine fn_ok F S (fun cdv A outer s H E hr xs om Qd hl hR => ?_)
  exact h _ ⟨rfl, rfl, rfl, rfl, rfl, rfl, rfl, rfl, PassesOwn.never, hr, S.kind, fun _ => rfl, S.nd⟩ (nms_of rfl rfl nm) (nss_of rfl rfl S.nd (fun _ => rfl) ns) (gns_of rfl gn) xs om Qd hl hR
variable {X : Cy} {N : List Str} {sc : Scope} {k : Nat}
theorem Good.cf (g : Good X P w K mg base N sc k) {x : Str} {j : Nat} {ps : List Str} {R : Rl} (h : Gn X x) (d : Df P w K mg base x j ps R) : Cf X x j ps R := by
  refine ⟨h, ?_⟩
  rw [g.prog, g.w, g.K, g.mg, g.base]
  exact d
theorem Good.bi (g : Good X P w K mg base N sc k) {x : Str} {id : String} (h : Gn X x) (hm : mg x = none) (hv : bootBuiltins x = some (.builtin id)) : Bi X x id := ⟨h, by rw [g.mg]; exact hm, hv⟩
theorem Good.bt (g : Good X P w K mg base N sc k) {x : Str} {id : String} (h : Gn X x) (hm : mg x = none) (hv : bootBuiltins x = some (.type id)) : Bt X x id := ⟨h, by rw [g.mg]; exact hm, hv⟩
theorem Good.blk (g : Good X P w K mg base N sc k) {scope : Scope} {own : List (Str × Nat)} (h : blkC N sc scope own = true) : BlkOk X.N X.env.scope scope own := by
  rw [g.N, g.sc]
  exact blkOk_by h
/-- within a comprehension -/
theorem Good.bnm (g : Good X P w K mg base N sc k) {scope : Scope} {s : Shared} {H : Hp} {C : Addr} {cl : List (Str × Addr)} {fp : List Addr} {l : List (Str × Nat)} (h : l.all (nmB N (relS scope sc)) = true) : Nms (Blk X scope s H C cl fp) l := nms_of (X := Blk X scope s H C cl fp) (sc := relS scope sc) g.N (by rw [← g.sc]; rfl) h
theorem Good.bgn (g : Good X P w K mg base N sc k) {scope : Scope} {s : Shared} {H : Hp} {C : Addr} {cl : List (Str × Addr)} {fp : List Addr} {l : List Str} (h : l.all (gnB (relS scope sc)) = true) : Gns (Blk X scope s H C cl fp) l := gns_of (X := Blk X scope s H C cl fp) (sc := relS scope sc) (by rw [← g.sc]; rfl) h
theorem Good.bcf (g : Good X P w K mg base N sc k) {scope : Scope} {s : Shared} {H : Hp} {C : Addr} {cl : List (Str × Addr)} {fp : List Addr} {x : Str} {j : Nat} {ps : List Str} {R : Rl} (h : Gn (Blk X scope s H C cl fp) x) (d : Df P w K mg base x j ps R) : Cf (Blk X scope s H C cl fp) x j ps R := by
  refine ⟨h, ?_⟩
  show Df X.prog X.w X.K X.mg X.base x j ps R
  rw [g.prog, g.w, g.K, g.mg, g.base]
  exact d
theorem Good.bbi (g : Good X P w K mg base N sc k) {scope : Scope} {s : Shared} {H : Hp} {C : Addr} {cl : List (Str × Addr)} {fp : List Addr} {x : Str} {id : String} (h : Gn (Blk X scope s H C cl fp) x) (hm : mg x = none) (hv : bootBuiltins x = some (.builtin id)) : Bi (Blk X scope s H C cl fp) x id := ⟨h, by
  show X.mg x = none
  rw [g.mg]
  exact hm, hv⟩
theorem Good.bbt (g : Good X P w K mg base N sc k) {scope : Scope} {s : Shared} {H : Hp} {C : Addr} {cl : List (Str × Addr)} {fp : List Addr} {x : Str} {id : String} (h : Gn (Blk X scope s H C cl fp) x) (hm : mg x = none) (hv : bootBuiltins x = some (.type id)) : Bt (Blk X scope s H C cl fp) x id := ⟨h, by
  show X.mg x = none
  rw [g.mg]
  exact hm, hv⟩
/-- the target of a for, of a comprehension: a name -/
theorem pgN {x : Str} {i : Nat} {pos : Pos} (n : Ns X x i) : PG X (.Name x pos) (gName i) := pg_name n.nd n.n n.l n.f
theorem Good.bpg (g : Good X P w K mg base N sc k) {scope : Scope} {s : Shared} {H : Hp} {C : Addr} {cl : List (Str × Addr)} {fp : List Addr} {x : Str} {i : Nat} {pos : Pos} (h : (decide (N[i]? = some x) && nkB ((relS scope sc).names.lookup x) .local) = true) : PG (Blk X scope s H C cl fp) (.Name x pos) (gName i) := by
  rw [Bool.and_eq_true, decide_eq_true_eq] at h
  have e := nkB_eq h.2
  rw [← g.sc] at e
  exact pg_name (X := Blk X scope s H C cl fp) (show X.N.Nodup from g.nd) (show X.N[i]? = some x by rw [g.N]; exact h.1) (.inl e) (.inr e)
end
/-- a, b = x, y: the stores' order -/
theorem swap2 {X : Cy} {x y : Str} {a b : Expr} {px py pt : Pos} {kt k2 pt2} (hk : X.env.scope.kind = .function) (hx : X.env.scope.names.lookup x = some .local) (hy : X.env.scope.names.lookup y = some .local) (hxy : (x == y) = false)
    (hl : (px.line == px.line) = true := by rfl) (hl2 : (py.line == px.line) = true := by rfl) (hs : ([a, b].any fun | .Starred .. => true | _ => false) = false := by rfl) (h1 : [a, b].all (foldedForSure 8) = false := by rfl) (h2 : [a, b].all (constantsAlone 8) = false := by rfl) :
    swappedStores [.Tuple [.Name x px, .Name y py] kt pt] (.Tuple [a, b] k2 pt2) X.env = pure (some [x, y]) := by
  have kx : X.env.kindOf x = some .local := hx
  have ky : X.env.kindOf y = some .local := hy
  have hb : X.env.blockKind = .function := by unfold Env.blockKind; rw [hk]; rfl
  have hyx : (y == x) = false := by
    rw [← hxy]
    exact Bool.beq_comm (a := y) (b := x) ▸ rfl
  unfold swappedStores
  simp only [hb, kx, ky, hl, hl2, h1, h2, hs, List.head?, Option.map, Option.getD, Expr.pos, List.filterMap, List.length]
  simp [hxy, hyx, List.eraseDups, List.eraseDupsBy, List.eraseDupsBy.loop, kx, ky, hl, hl2]
  intro h
  rw [List.any_cons, List.any_cons, Bool.or_eq_false_iff, Bool.or_eq_false_iff] at hs
  rcases h with h | h
  · exact absurd (h.symm.trans hs.1) (by simp)
  · exact absurd (h.symm.trans hs.2.1) (by simp)
end Dl

namespace Dl
open PySem PySem.Spec L2
open PyProof.Rows hiding St

/-! ### slices with a step -/
section
variable {prog : Program} {w : World} {A : Around} {E : Value → Shared → Prop} {s : Shared}
theorem sliceApplied_c {sl : Addr} {vl vu vc : Value} {lo hi : Option Int} {c : Int} {n : Nat} {Q : Int × Int × Nat → Shared → Prop} (hs : s.heap.IsSliceOf sl vl vu vc) (pl : IsPart vl lo) (pu : IsPart vu hi) (pc : IsPart vc (some c)) (hc : (c == 0) = false)
    (h : Q ((Builtin.Slice.sliceAdjust lo hi c n).1, c, Builtin.Slice.slicePlaces (Builtin.Slice.sliceAdjust lo hi c n).1 (Builtin.Slice.sliceAdjust lo hi c n).2 c) s) : wpAny (model prog w) A (Builtin.Slice.sliceApplied (.ref sl) (pure (n : Int))) Q E s := by
  obtain ⟨os, hos, hcs, hds⟩ := id hs
  unfold Builtin.Slice.sliceApplied Builtin.Slice.sliceFields
  refine wpAny_bind (wpAny_bind (wpAny_field hos hds (x := vl) rfl (wpAny_bind (wpAny_field hos hds (x := vu) rfl (wpAny_bind (wpAny_field hos hds (x := vc) rfl (wpAny_pure ?_)))))))
  refine wpAny_bind (HT.slicePart_ pc ?_)
  show wpAny _ _ (if (c == 0) = true then _ else _) _ _ s
  rw [if_neg (by rw [hc]; exact Bool.false_ne_true)]
  exact wpAny_bind (HT.slicePart_ pl (wpAny_bind (HT.slicePart_ pu (wpAny_bind (wpAny_pure (wpAny_pure h))))))
def pickC {α : Type} (xs : List α) (a c : Int) (n : Nat) : List α := (List.range n).filterMap fun (k : Nat) => xs[(a + (k : Int) * c).toNat]?
theorem getItem_tuple_c {t sl : Addr} {items : Array Value} {vl vu vc : Value} {lo hi : Option Int} {c : Int} {Q : Value → Shared → Prop} (ht : IsTup s.heap t items) (hs : s.heap.IsSliceOf sl vl vu vc) (pl : IsPart vl lo) (pu : IsPart vu hi) (pc : IsPart vc (some c)) (hc : (c == 0) = false) (hc1 : (c == 1) = false)
    {a : Int} {n : Nat} (ea : Builtin.Slice.sliceAdjust lo hi c items.size = (a, (Builtin.Slice.sliceAdjust lo hi c items.size).2)) (en : Builtin.Slice.slicePlaces (Builtin.Slice.sliceAdjust lo hi c items.size).1 (Builtin.Slice.sliceAdjust lo hi c items.size).2 c = n) (hn : n ≤ sizeLine)
    (h : Q (.ref s.heap.objs.size) { s with heap := s.heap.push { cls := .type "tuple", data := .seq (pickC items.toList a c n).toArray } }) : wpAny (model prog w) A (getItem (.ref t) (.ref sl)) Q E s := by
  have hlen : ∀ (m : Nat), (pickC items.toList a c m).length ≤ m := fun m => by
    unfold pickC
    exact Nat.le_trans (List.length_filterMap_le _ _) (by simp)
  have htake : sizeOk (.seq (pickC items.toList a c n).toArray) := by
    show (pickC items.toList a c n).toArray.size ≤ sizeLine
    rw [List.size_toArray]
    exact Nat.le_trans (hlen n) hn
  obtain ⟨os, hos, hcs, hds⟩ := id hs
  have hTs : s.TypeIs (.ref sl) "slice" := ⟨os, hos, hcs⟩
  have ea1 : (Builtin.Slice.sliceAdjust lo hi c items.size).1 = a := by rw [ea]
  unfold getItem
  try with_reducible refine wpAny_holding ?_
  first | refine wpAny_bind (wpAny_pure ?_) | skip
  refine wpAny_bind (wpAny_sequenceKey ht.typeIs (by decide) ?_)
  refine wpAny_bind (wpAny_callSpecial?_slot (name := Str.ofString "__getitem__") ht.typeIs PyProof.Rows.slot_tuple_getitem
    (wpAny_call_entry PyProof.Rows.slot_tuple_getitem ht.typeIs entry_tuple_getitem ?_ (args_tuple_getitem _ _)))
  show wpAny _ _ (Builtin.Tuple.tupleItemsOf (.ref t) >>= _) _ _ s
  refine wpAny_bind (tupleItemsOf_ ht ?_)
  refine wpAny_bind (wpAny_typeOf hTs ?_)
  rw [if_pos (by decide)]
  refine wpAny_bind (sliceApplied_c hs pl pu pc hc ?_)
  rw [en, ea1]
  show wpAny _ _ (if ((a == 0) && (c == 1) && (n == items.size)) = true then _ else _) _ _ s
  rw [hc1, Bool.and_false, Bool.false_and, if_neg Bool.false_ne_true]
  have e : ((List.range n).filterMap fun (k : Nat) => items[(a + (k : Int) * c).toNat]?).toArray = (pickC items.toList a c n).toArray := by
    unfold pickC
    congr 2
    funext k
    rw [Array.getElem?_toList]
  rw [e]
  first
    | exact wpAny_bind (m := Builtin.Tuple.tupleExact _) (wpAny_newObj_type (wpAny_pure ⟨_, rfl, wpAny_pure h⟩) htake)
    | exact wpAny_bind (m := Builtin.Tuple.tupleExact _) (wpAny_newObj_type (wpAny_bind (wpAny_pure (wpAny_pure ⟨_, rfl, wpAny_pure h⟩))) htake)
    | exact wpAny_bind (wpAny_bind (m := Builtin.Tuple.tupleExact _) (wpAny_newObj_type (wpAny_pure (wpAny_pure ⟨_, rfl, wpAny_pure h⟩)) htake))
    | exact wpAny_bind (wpAny_bind (m := Builtin.Tuple.tupleExact _) (wpAny_newObj_type (wpAny_pure ⟨_, rfl, wpAny_pure h⟩) htake))
end
/-- a slice with a step, by values -/
def s3B (X : Cy) : V → Option Int → Option Int → Int → Hp → VK → Prop := fun x lo hi st H Q => ∀ (pins : List (Addr × Obj)) (s : Shared) (σ : St) (v vl vu vc : Value) (sl : Addr), Inv X pins σ H s → RelV x v → s.heap.IsSliceOf sl vl vu vc → IsPart vl lo → IsPart vu hi → IsPart vc (some st) →
    ∃ T id, typeLookup (.type T) "__getitem__" = pure (some (.builtin id)) ∧ s.TypeIs v T ∧ wpAny (model X.prog X.w) X.A (getItem v (.ref sl)) (EP X pins σ Q) X.xe s
def S3 (X : Cy) (x : Sl) (lo hi : Option Int) (st : Int) (z : Z) (Q : Sl → Z → Prop) : Prop := ∀ (c : CtX X) w σ v k, B X.K c w σ z → Vl X.K w v x → Cont X.K c w σ Q k → s3B X v lo hi st w.H k
section
variable {X : Cy} {a b : Expr} {z : Z} {pos : Pos} {Q : Sl → Z → Prop}
theorem pe_sl3 {e st : Expr} {lo hi : Option Expr} {p2 : Pos} {te ts : TE} {tl th : TO} (he : PE X e te) (hl : PO X lo tl) (hu : PO X hi th) (hst : PE X st ts) :
    PE X (.Subscript e (.Slice lo hi (some st) p2) pos) (fun σ H Q => te σ H fun x H1 => tl σ H1 fun l H2 => th σ H2 fun u H3 => ts σ H3 fun y H4 => ∃ c, y = .int c ∧ s3B X x l u c H4 Q) := by
  refine ⟨fun pins s σ H Q I h => ?_⟩
  refine Subscript_ (thn (he.run pins s σ H _ I h) fun v s1 ⟨x, H1, I1, r1, q1⟩ => ?_)
  refine wpAny_Slice (thn (hl.run pins s1 σ H1 _ I1 q1) fun vl s2 ⟨l, H2, I2, pl, q2⟩ => thn (hu.run pins s2 σ H2 _ I2 q2) fun vu s3 ⟨u, H3, I3, pu, q3⟩ => ?_)
  rw [evalPart_some]
  refine thn (hst.run pins s3 σ H3 _ I3 q3) fun vc s4 ⟨y, H4, I4, r4, c, e1, q4⟩ => ?_
  · subst e1
    obtain ⟨tk, rfl⟩ := r4
    have pc : IsPart (.int c tk) (some c) := .int c tk
    have I5 : Inv X pins σ H4 { s4 with heap := s4.heap.push { cls := .type "slice", data := .fields #[vl, vu, .int c tk] } } := I4.kept (t' := s4.toks) fun b ob q => Heap.get?_push_of_some _ q
    obtain ⟨T, id, hT, ht, hg⟩ := q4 pins { s4 with heap := s4.heap.push { cls := .type "slice", data := .fields #[vl, vu, .int c tk] } } σ v vl vu (.int c tk) s4.heap.objs.size I5 r1 (Heap.IsSliceOf.new ..) pl pu pc
    show wpAny (model X.prog X.w) X.A (subscriptTail e (.Slice lo hi (some st) p2) v (.ref s4.heap.objs.size)) (EP X pins σ Q) X.xe { s4 with heap := s4.heap.push { cls := .type "slice", data := .fields #[vl, vu, .int c tk] } }
    exact tail_any (ops := [v, .ref s4.heap.objs.size]) ht hT hg (by with_unfolding_all rfl)
theorem we_sl3 {e st : Expr} {lo hi : Option Expr} {p2 : Pos} (h : WE X e z fun x z1 => WO X lo z1 fun l z2 => WO X hi z2 fun u z3 => WE X st z3 fun y z4 => ∃ c, y = .sh (.int c) ∧ S3 X x l u c z4 Q) : WE X (.Subscript e (.Slice lo hi (some st) p2) pos) z Q := fun c w σ k bb hk =>
  tE_of (pe_sl3 peB poB poB peB) (h c w σ _ bb fun v x w1 z1 b1 l1 q1 h1 => wo_ok h1 c w1 σ _ b1 fun i w2 z2 b2 l2 h2 => wo_ok h2 c w2 σ _ b2 fun j w3 z3 b3 l3 h3 => h3 c w3 σ _ b3 fun u y w4 z4 b4 l4 q4 ⟨cc, e1, h4⟩ => by
    subst e1
    exact ⟨cc, Dp_int q4, h4 c w4 σ v k b4 (q1.mono ((l2.trans l3).trans l4)) (hk.le (((l1.trans l2).trans l3).trans l4))⟩)
/-- t[:0:-1], t a tuple that isn't empty -/
theorem pick_back {α : Type} (x : α) (xs : List α) : pickC (x :: xs) ((xs.length + 1 : Nat) - 1 : Int) (-1) xs.length = xs.reverse := by
  unfold pickC
  have key : ∀ (n : Nat), n ≤ xs.length → (List.range n).filterMap (fun (k : Nat) => (x :: xs)[(((xs.length + 1 : Nat) - 1 : Int) + (k : Int) * -1).toNat]?) = xs.reverse.take n := fun n => by
    induction n with
    | zero => intro _; rfl
    | succ n ih =>
      intro hn
      rw [List.range_succ, List.filterMap_append, ih (by omega), List.take_add_one]
      congr 1
      have e : (((xs.length + 1 : Nat) - 1 : Int) + (n : Int) * -1).toNat = xs.length - n := by omega
      have e2 : xs.length - n = (xs.length - 1 - n) + 1 := by omega
      rw [List.filterMap_cons, List.filterMap_nil, e, e2, List.getElem?_cons_succ]
      rw [List.getElem?_reverse (by omega)]
      have hl : xs.length - 1 - n < xs.length := by omega
      rw [List.getElem?_eq_getElem hl]
      rfl
  rw [key xs.length (Nat.le_refl _), List.take_of_length_le (by simp)]
theorem paired_pick {α β : Type} {F : α → β → Prop} {xs : List α} {ys : List β} (h : Paired F xs ys) (a c : Int) (n : Nat) : Paired F (pickC xs a c n) (pickC ys a c n) := by
  unfold pickC
  induction n with
  | zero => exact .nil
  | succ n ih =>
    rw [List.range_succ, List.filterMap_append, List.filterMap_append]
    refine paired_app ih ?_
    rw [List.filterMap_cons, List.filterMap_nil, List.filterMap_cons, List.filterMap_nil]
    cases e : ys[(a + (n : Int) * c).toNat]? with
    | none =>
      have : xs[(a + (n : Int) * c).toNat]? = none := by
        rw [List.getElem?_eq_none_iff] at e ⊢
        rw [h.length]
        exact e
      rw [this]
      exact .nil
    | some y =>
      obtain ⟨x, e1, q⟩ := paired_get h e
      rw [e1]
      exact .cons q .nil
theorem s3_back {d : PyData} {ds : List PyData} (hl : ds.length < 100000) (h : Q (.sh (.tuple ds.reverse)) z) : S3 X (.sh (.tuple (d :: ds))) none (some 0) (-1) z Q := fun c w σ v k b r1 hk => by
  obtain ⟨p, xs, rfl, h1, s1⟩ := Dp_tupI r1
  intro pins s σ2 v vl vu vc sl I rx hs pl pu pc
  cases rx
  obtain ⟨its, r, ht, hz⟩ := I.tuple (Same.tup b.same h1)
  have hxl : xs.length = ds.length + 1 := by rw [DpAll_len s1]; rfl
  have hil : its.toArray.size = ds.length + 1 := by rw [List.size_toArray, ← r.length]; exact hxl
  refine ⟨"tuple", _, PyProof.Rows.slot_tuple_getitem.lookup, ht.typeIs, ?_⟩
  have ea : Builtin.Slice.sliceAdjust none (some 0) (-1) (its.toArray.size : Int) = ((its.toArray.size : Int) - 1, 0) := by
    unfold Builtin.Slice.sliceAdjust
    rw [hil]
    have h3 : min (0 : Int) (((ds.length + 1 : Nat) : Int) - 1) = 0 := by omega
    simp only [show (-1 : Int) < 0 by decide, if_true, show ¬ (0 : Int) < 0 by decide, if_false, h3]
  have en : Builtin.Slice.slicePlaces ((its.toArray.size : Int) - 1) 0 (-1) = ds.length := by
    unfold Builtin.Slice.slicePlaces
    rw [hil]
    by_cases h0 : ds.length = 0
    · rw [h0]
      decide
    · simp only [show ¬ (-1 : Int) > 0 by decide, if_false, show ((ds.length + 1 : Nat) : Int) - 1 > 0 by omega, if_true, show (- -1 : Int) = 1 by decide, Int.ediv_one]
      omega
  refine getItem_tuple_c (a := (its.toArray.size : Int) - 1) (n := ds.length) ht hs pl pu pc (by decide) (by decide) (by rw [ea]) (by rw [ea]; exact en) (Nat.le_of_lt (Nat.lt_of_lt_of_le hl (by decide))) ?_
  have hpk : Paired (Dq X.K w.S) (pickC xs ((ds.length + 1 : Nat) - 1 : Int) (-1) ds.length) ds.reverse := by
    have := paired_pick (DqAll_paired s1) ((ds.length + 1 : Nat) - 1 : Int) (-1) ds.length
    rw [pick_back d ds] at this
    exact this
  have hvp : Vals (pickC xs ((ds.length + 1 : Nat) - 1 : Int) (-1) ds.length) (pickC its.toArray.toList ((its.toArray.size : Int) - 1) (-1) ds.length) := by
    rw [hil]
    exact paired_pick (F := RelV) r _ _ _
  have hfin := new_tup (Q := Q) b (paired_DqAll hpk) hk h _ { cls := .type "tuple", data := .seq (pickC its.toArray.toList ((its.toArray.size : Int) - 1) (-1) ds.length).toArray } (I.hok.fresh (Nat.le_refl _)) rfl
  refine ⟨.ref s.heap.objs.size, _, laidP I hvp ?_, rfl, hfin⟩
  rw [hpk.length, List.length_reverse]
  exact Nat.le_of_lt (Nat.lt_of_lt_of_le hl (by decide))
/-- xs[::-1] of a list -/
theorem s3_rev {ds : List PyData} (h : Q (.sh (.list ds.reverse)) z) : S3 X (.sh (.list ds)) none none (-1) z Q := fun c w σ v k b r1 hk => by
  obtain ⟨p, xs, rfl, h1, s1⟩ := Dp_lstI r1
  intro pins s σ2 v vl vu vc sl I rx hs pl pu pc
  cases rx
  obtain ⟨its, r, ht, hz⟩ := I.list (.inl (Same.rd b.same h1))
  refine ⟨"list", _, PySem.list_getitem_lookup, ht.isList.typeIs, ?_⟩
  refine wpAny_getItem_list_slice ht.isList hs pl pu pc (by decide) ?_ (by rw [List.size_toArray, ← r.length]; exact hz)
  rw [PySem.W.krv_pick]
  have hfin := new_lstF (Q := Q) b (paired_DqAll (paired_rev (DqAll_paired s1))) hk h _ (I.hok.fresh (Nat.le_refl _))
  exact ⟨.ref s.heap.objs.size, _, I.lnew (t' := s.toks) (paired_rev (F := RelV) r) (by rw [List.length_reverse]; exact hz), rfl, hfin⟩
end
/-! ### list.extend of a tuple -/
section
variable {X : Cy} {z : Z} {Q : Sl → Z → Prop}
open AutoSeq1 in
theorem list_extend_tup (l : Addr) (items : Array Value) (n : Nat) (b : Addr) (items2 : Array Value) (n2 : Nat) (dd : Option Addr) (sl : Array (Option Value)) (hs0 : ¬(!items.isEmpty && Builtin.List.listTooLong (items.size + items2.size)) = true) (hs1 : items.size ≤ sizeLine) (hs2 : items.size + items2.size ≤ sizeLine + 1) :
    Meets (Builtin.«list.extend» ⟨[.ref l, .ref b], []⟩) (fun _ R s => s.heap.get? l = some { cls := .type "list", dict := none, data := .seq items n, slots := #[] } ∧ s.heap.get? b = some { cls := .type "tuple", dict := dd, data := .seq items2 n2, slots := sl } ∧ R (.ok (.ret Value.none)) { s with heap := s.heap.update l (Obj.mapSeq fun x => x ++ items2), toks := s.toks }) :=
  .of_wp fun prog w A R s h => by
    obtain ⟨hp, g, d, tk, os⟩ := s; obtain ⟨hl, hb, h⟩ := h; have f1 := idx_int; have f2 := AutoSeq1.sub_tuple_tuple; have f3 := AutoSeq1.sub_list_list; have f4 := AutoSeq1.sub_tuple_list; have f5 := AutoSeq1.sub_list_tuple;
    have hz' : (items ++ items2).size ≤ sizeLine + 1 := by rw [Array.size_append]; exact hs2
    wp_walk using (wpAny_updateSeq hl rfl (hz := hs1) (_hz' := hz')), wpAny_loadPart' hl, wpAny_loadPart' hb; exact ⟨_, rfl, h⟩
theorem rExtT : MtM X "list.extend" (fun x vs H Q => ∃ l b xs zs, x = .ref l ∧ vs = [.ref b] ∧ H l = some (.lst xs) ∧ SqT X.K H b zs ∧ xs.length + zs.length ≤ sizeLine ∧ Q .non (upd H l (.lst (xs ++ zs)))) := by
  intro pins s σ H x vs v us Q I rx rv h
  obtain ⟨l, b, xs, zs, rfl, rfl, hH, hB, hz, q⟩ := h
  cases rx
  obtain ⟨u, rfl, ru⟩ := rv.one
  cases ru
  obtain ⟨z, its, n, r, hl, e⟩ := I.lstM hH
  obtain ⟨its2, r2, ⟨⟨oc, dd, od, sl⟩, e2, hc, n2, hd⟩, z2⟩ := I.tuple hB
  simp only at hc hd
  subst hc hd
  have hl2 := r2.length
  have hsz : its.toArray.size + its2.toArray.size ≤ sizeLine := by rw [List.size_toArray, List.size_toArray]; omega
  have hlong : ¬ (!its.toArray.isEmpty && Builtin.List.listTooLong (its.toArray.size + its2.toArray.size)) = true := by
    rw [notLongL hsz, Bool.and_false]
    exact Bool.false_ne_true
  refine call_meets F.slot_list_extend ⟨_, e, rfl⟩ F.entry_list_extend (F.args_list_extend_2 _ _)
    (list_extend_tup l its.toArray n b its2.toArray n2 dd sl hlong (by rw [List.size_toArray]; omega) (by omega)) ⟨e, e2, ?_⟩
  refine ⟨.non, _, I.lset (its' := its ++ its2) hH e (by simp) (r.append r2) ?_, rfl, q⟩
  rw [List.length_append]
  omega
theorem mo_extendT {i : Nat} {xs : List Sl} {ds : List PyData} (ho : z.ob[i]? = some (.lst xs)) (hl : xs.length + ds.length ≤ 100000) (h : Q (.sh .none) ⟨z.sl, z.ob.set i (.lst (xs ++ ds.map .sh))⟩) : MO X "list.extend" i [.sh (.tuple ds)] z Q := fun c w σ p vs k b hp rr hk => by
  obtain ⟨v, rfl, r⟩ := p1 rr
  obtain ⟨_, us, hH, hv⟩ := b.ob i _ p ho hp
  obtain ⟨q, zs, rfl, h1, s1⟩ := Dp_tupI r
  refine mB_of rExtT ⟨p, q, us, zs, rfl, rfl, hH, Same.tup b.same h1, ?_, hk _ _ _ _ (b.setO ho hp (paired_app hv (dp_allSh s1))) le_set vN h⟩
  rw [hv.length, DpAll_len s1]
  exact Nat.le_trans hl (by decide)
/-! ### list * int, in of ints -/
theorem op_repR : OpR X (binaryOp .Mult) (fun x y H Q => ∃ l k xs, x = .ref l ∧ y = .int k ∧ Rd H l (.lst xs) ∧ -(2 ^ 63) ≤ k ∧ k < 2 ^ 63 ∧ xs.length * k.toNat ≤ sizeLine ∧
  ∀ p, H p = none → Q (.ref p) (upd H p (.lst (List.replicate k.toNat xs).flatten))) := by
  intro pins s σ H x y v u Q I rx ry h
  obtain ⟨l, k, xs, rfl, rfl, hH, h1, h2, hz, q⟩ := h
  cases rx
  obtain ⟨t, rfl⟩ := ry
  obtain ⟨z, its, n, r, e⟩ := hH.ok I.hok
  have hl := r.length
  have big : its.toArray.size * k.toNat ≤ sizeLine := by
    rw [List.size_toArray, ← hl]
    exact hz
  have cap : ¬ its.toArray.size * k.toNat > (2 ^ 63 - 1) / 8 := fun h => absurd (Nat.lt_of_lt_of_le h big) (by decide)
  have new : List.foldl (fun x1 x2 => x1 ++ x2) #[] (List.replicate (if its.toArray.isEmpty = true then 0 else k.toNat) its.toArray) = (List.replicate k.toNat its).flatten.toArray := by
    have f0 := fun m : Nat => foldl_rep its m []
    simp only [List.nil_append] at f0
    refine (f0 _).trans ?_
    cases its with
    | nil => simp
    | cons a r' => simp
  refine wpAny_binaryOp_repeat_ref (T := "list") (U := "int") (by decide) ⟨_, e, rfl⟩ (fun s' => typeIs_int s' k t) noFill_list_mul F.fills_int_mul F.slot_int_rmul repeat_list F.slot_int_index.lookup
    (call_meets F.slot_int_rmul (typeIs_int s k t) F.entry_int_rmul (F.args_int_rmul_2 _ _) (int___rmul___int_list k t l its.toArray n) ⟨e, rfl, ⟨_, e, rfl⟩,
      call_meets F.slot_list_mul ⟨_, e, rfl⟩ F.entry_list_mul (F.args_list_mul_2 _ _) (AutoListH.list___mul___list_int_3 l its.toArray n k t (by rw [fitsIndex_both h1 h2]; exact Bool.false_ne_true) cap (by rw [notLongL big]; exact Bool.false_ne_true)) ⟨e, ?_⟩⟩)
  rw [new]
  exact ⟨.ref _, _, I.lnew (t' := s.toks) (r.rep k.toNat) (by rw [PyProof.Rows.lm_len_rep_flat, Nat.mul_comm]; exact hz), rfl, q _ I.fresh⟩
theorem DqAll_rep {K : PySem.W.Frag} {H : Hp} {vs : List V} {ds : List PyData} (h : DqAll K H vs ds) : ∀ n : Nat, DqAll K H (List.replicate n vs).flatten (List.replicate n ds).flatten
  | 0 => .nil
  | n + 1 => by
    rw [List.replicate_succ, List.replicate_succ, List.flatten_cons, List.flatten_cons]
    exact DqAll_app h (DqAll_rep h n)
theorem rd_repF {ds : List PyData} {k : Int} (h1 : k < 1000) (h0 : -1000 < k) (hc : ds.length ≤ 10000) (h : Q (.sh (.list (List.replicate k.toNat ds).flatten)) z) : RD X (binaryOp .Mult) (.sh (.list ds)) (.sh (.int k)) z Q := fun c w σ v u kk b r1 r2 hk => by
  obtain ⟨p, xs, rfl, h3, s1⟩ := Dp_lstI r1
  cases Dp_int r2
  refine rB_of op_repR ⟨p, k, xs, rfl, rfl, Same.rd b.same h3, by omega, by omega, ?_, new_lstF b (DqAll_rep s1 _) hk h⟩
  rw [DpAll_len s1]
  have h5 : k.toNat ≤ 1000 := by omega
  exact Nat.le_trans (Nat.mul_le_mul hc h5) (by decide)
/-- n in a list of ints -/
theorem inV_ints (n : Int) : ∀ ns : List Int, inV (.int n) (ns.map V.int) = ns.contains n
  | [] => rfl
  | m :: ns => by
    show (eqV (.int m) (.int n) || inV (.int n) (ns.map V.int)) = _
    rw [inV_ints n ns, List.contains_cons]
    congr 1
    show (m == n) = (n == m)
    exact Bool.beq_comm
theorem flat_ints (ns : List Int) : (ns.map V.int).all flatV = true := by
  rw [List.all_eq_true]
  intro v hv
  obtain ⟨n, _, rfl⟩ := List.mem_map.mp hv
  rfl
theorem rd_inI {n : Int} {ns : List Int} (h : Q (.sh (.bool (ns.contains n))) z) : RD X (compareOp .In) (.sh (.int n)) (.sh (.list (ns.map .int))) z Q := fun c w σ v u kk b r1 r2 hk => by
  cases Dp_int r1
  obtain ⟨p, xs, rfl, h3, s1⟩ := Dp_lstI r2
  have e := ints_v s1
  subst e
  refine rB_of op_in_seq ⟨p, _, rfl, .inl (.inl (Same.rd b.same h3)), rfl, flat_ints ns, ?_⟩
  rw [if_neg Bool.false_ne_true, inV_ints]
  exact hk _ _ w z b (.refl w) (vB _) h
theorem rd_notInI {n : Int} {ns : List Int} (h : Q (.sh (.bool (!ns.contains n))) z) : RD X (compareOp .NotIn) (.sh (.int n)) (.sh (.list (ns.map .int))) z Q := fun c w σ v u kk b r1 r2 hk => by
  cases Dp_int r1
  obtain ⟨p, xs, rfl, h3, s1⟩ := Dp_lstI r2
  have e := ints_v s1
  subst e
  refine rB_of op_notIn_seq ⟨p, _, rfl, .inl (.inl (Same.rd b.same h3)), rfl, flat_ints ns, ?_⟩
  rw [if_pos rfl, inV_ints]
  exact hk _ _ w z b (.refl w) (vB _) h
end
/-! ### ways that meet again -/
section
variable {X : Cy} {st : Stmt} {rest : List Stmt} {z : Z} {Q : Out → Prop}
def JoinQ (J : Z → Prop) (Q : Out → Prop) : Out → Prop
  | .nx z => J z
  | o => Q o
theorem join_nx {J : Z → Prop} (h : J z) : JoinQ J Q (.nx z) := h
theorem join_rt {J : Z → Prop} {x : Sl} (h : Q (.rt x z)) : JoinQ J Q (.rt x z) := h
theorem join_bk {J : Z → Prop} (h : Q (.bk z)) : JoinQ J Q (.bk z) := h
theorem join_ct {J : Z → Prop} (h : Q (.ct z)) : JoinQ J Q (.ct z) := h
theorem ws_join (J : Z → Prop) (h : W1 X st z (JoinQ J Q)) (hJ : ∀ z, J z → WS X rest z Q) : WS X (st :: rest) z Q := ws_cons fun c w σ D bb hk => h c w σ D bb
  ⟨fun w' σ' z' b l q => hk.nx w' σ' z' b l (hJ z' q), fun v x w' σ' z' b l r q => hk.rt v x w' σ' z' b l r q, fun w' σ' z' b l q => hk.bk w' σ' z' b l q, fun w' σ' z' b l q => hk.ct w' σ' z' b l q⟩
theorem loop_nx {N : Z → Prop} (h : N z) : LoopQ N Q (.nx z) := h
theorem loop_ct {N : Z → Prop} (h : N z) : LoopQ N Q (.ct z) := h
theorem loop_bk {N : Z → Prop} (h : Q (.nx z)) : LoopQ N Q (.bk z) := h
theorem loop_rt {N : Z → Prop} {x : Sl} (h : Q (.rt x z)) : LoopQ N Q (.rt x z) := h
end
theorem Bx.Ok.mk0 {a s : Int} (h0 : 0 ≤ a) (h1 : 0 ≤ s) (h2 : s < 1099511627776) : (⟨a, s, 0⟩ : Bx).Ok 1000000000 := ⟨h0, h1, h2, Int.le_refl 0, by show (0 : Int) + 1000000000 ≤ _; decide⟩
end Dl

namespace Dl
open PySem PySem.Spec L2
open PyProof.Rows hiding St
/-! ### isinstance by kinds -/
theorem isi_non_int {z : Z} : Isi (.sh PyData.none) z "int" false := show kitB "NoneType" "int" = some false by decide +kernel
theorem isi_non_bool {z : Z} : Isi (.sh PyData.none) z "bool" false := show kitB "NoneType" "bool" = some false by decide +kernel
theorem isi_non_str {z : Z} : Isi (.sh PyData.none) z "str" false := show kitB "NoneType" "str" = some false by decide +kernel
theorem isi_non_list {z : Z} : Isi (.sh PyData.none) z "list" false := show kitB "NoneType" "list" = some false by decide +kernel
theorem isi_non_tuple {z : Z} : Isi (.sh PyData.none) z "tuple" false := show kitB "NoneType" "tuple" = some false by decide +kernel
theorem isi_bool_int {b : Bool} {z : Z} : Isi (.sh (.bool b)) z "int" true := show kitB "bool" "int" = some true by decide +kernel
theorem isi_bool_bool {b : Bool} {z : Z} : Isi (.sh (.bool b)) z "bool" true := show kitB "bool" "bool" = some true by decide +kernel
theorem isi_bool_str {b : Bool} {z : Z} : Isi (.sh (.bool b)) z "str" false := show kitB "bool" "str" = some false by decide +kernel
theorem isi_bool_list {b : Bool} {z : Z} : Isi (.sh (.bool b)) z "list" false := show kitB "bool" "list" = some false by decide +kernel
theorem isi_bool_tuple {b : Bool} {z : Z} : Isi (.sh (.bool b)) z "tuple" false := show kitB "bool" "tuple" = some false by decide +kernel
theorem isi_int_int {i : Int} {z : Z} : Isi (.sh (.int i)) z "int" true := show kitB "int" "int" = some true by decide +kernel
theorem isi_int_bool {i : Int} {z : Z} : Isi (.sh (.int i)) z "bool" false := show kitB "int" "bool" = some false by decide +kernel
theorem isi_int_str {i : Int} {z : Z} : Isi (.sh (.int i)) z "str" false := show kitB "int" "str" = some false by decide +kernel
theorem isi_int_list {i : Int} {z : Z} : Isi (.sh (.int i)) z "list" false := show kitB "int" "list" = some false by decide +kernel
theorem isi_int_tuple {i : Int} {z : Z} : Isi (.sh (.int i)) z "tuple" false := show kitB "int" "tuple" = some false by decide +kernel
theorem isi_str_int {x : Str} {z : Z} : Isi (.sh (.str x)) z "int" false := show kitB "str" "int" = some false by decide +kernel
theorem isi_str_bool {x : Str} {z : Z} : Isi (.sh (.str x)) z "bool" false := show kitB "str" "bool" = some false by decide +kernel
theorem isi_str_str {x : Str} {z : Z} : Isi (.sh (.str x)) z "str" true := show kitB "str" "str" = some true by decide +kernel
theorem isi_str_list {x : Str} {z : Z} : Isi (.sh (.str x)) z "list" false := show kitB "str" "list" = some false by decide +kernel
theorem isi_str_tuple {x : Str} {z : Z} : Isi (.sh (.str x)) z "tuple" false := show kitB "str" "tuple" = some false by decide +kernel
theorem isi_list_int {ds : List PyData} {z : Z} : Isi (.sh (.list ds)) z "int" false := show kitB "list" "int" = some false by decide +kernel
theorem isi_list_bool {ds : List PyData} {z : Z} : Isi (.sh (.list ds)) z "bool" false := show kitB "list" "bool" = some false by decide +kernel
theorem isi_list_str {ds : List PyData} {z : Z} : Isi (.sh (.list ds)) z "str" false := show kitB "list" "str" = some false by decide +kernel
theorem isi_list_list {ds : List PyData} {z : Z} : Isi (.sh (.list ds)) z "list" true := show kitB "list" "list" = some true by decide +kernel
theorem isi_list_tuple {ds : List PyData} {z : Z} : Isi (.sh (.list ds)) z "tuple" false := show kitB "list" "tuple" = some false by decide +kernel
theorem isi_tup_int {ds : List PyData} {z : Z} : Isi (.sh (.tuple ds)) z "int" false := show kitB "tuple" "int" = some false by decide +kernel
theorem isi_tup_bool {ds : List PyData} {z : Z} : Isi (.sh (.tuple ds)) z "bool" false := show kitB "tuple" "bool" = some false by decide +kernel
theorem isi_tup_str {ds : List PyData} {z : Z} : Isi (.sh (.tuple ds)) z "str" false := show kitB "tuple" "str" = some false by decide +kernel
theorem isi_tup_list {ds : List PyData} {z : Z} : Isi (.sh (.tuple ds)) z "list" false := show kitB "tuple" "list" = some false by decide +kernel
theorem isi_tup_tuple {ds : List PyData} {z : Z} : Isi (.sh (.tuple ds)) z "tuple" true := show kitB "tuple" "tuple" = some true by decide +kernel
theorem isi_ob_list {i : Nat} {xs : List Sl} {z : Z} (h : z.ob[i]? = some (.lst xs)) : Isi (.ob i) z "list" true := ⟨⟨xs, h⟩, by decide +kernel⟩
theorem isi_ob_tuple {i : Nat} {xs : List Sl} {z : Z} (h : z.ob[i]? = some (.lst xs)) : Isi (.ob i) z "tuple" false := ⟨⟨xs, h⟩, by decide +kernel⟩
/-- plain data of a depth -/
def Pd : Nat → PyData → Prop
  | _, .none => True
  | _, .bool _ => True
  | _, .int _ => True
  | _, .str _ => True
  | n + 1, .list ds => ds.length ≤ 100000 ∧ ∀ d ∈ ds, Pd n d
  | n + 1, .tuple ds => ds.length ≤ 100000 ∧ ∀ d ∈ ds, Pd n d
  | _, _ => False
theorem Pd.mono : ∀ {n m : Nat} {d : PyData}, Pd n d → n ≤ m → Pd m d
  | _, m, .none, _, _ => by cases m <;> trivial
  | _, m, .bool _, _, _ => by cases m <;> trivial
  | _, m, .int _, _, _ => by cases m <;> trivial
  | _, m, .str _, _, _ => by cases m <;> trivial
  | n + 1, m + 1, .list ds, h, l => ⟨h.1, fun d hd => (h.2 d hd).mono (Nat.le_of_succ_le_succ l)⟩
  | n + 1, m + 1, .tuple ds, h, l => ⟨h.1, fun d hd => (h.2 d hd).mono (Nat.le_of_succ_le_succ l)⟩
  | 0, _, .list ds, h, _ => h.elim
  | 0, _, .tuple ds, h, _ => h.elim
  | 0, _, .dict ds, h, _ => h.elim
  | _ + 1, _, .dict ds, h, _ => h.elim
theorem Pd.bools : ∀ (n : Nat) (b : Bool), Pd n (.bool b)
  | 0, _ => trivial
  | _ + 1, _ => trivial
theorem Pd.ints : ∀ (n : Nat) (b : Int), Pd n (.int b)
  | 0, _ => trivial
  | _ + 1, _ => trivial
theorem Pd.strs : ∀ (n : Nat) (b : Str), Pd n (.str b)
  | 0, _ => trivial
  | _ + 1, _ => trivial
end Dl

namespace Dl
open PySem PySem.Spec L2
open PyProof.Rows hiding St

/-! ### comprehensions over data alone -/
section
variable {X : Cy} {tg elt t : Expr} {scope : Scope} {vs : List Nat} {g : TG} {Q : Sl → Z → Prop} {ys : List Sl} {G : Z → Prop} {z1 : Z}
theorem lcd_map (fs : List PyData) (hl : ys.length = fs.length) (hlen : ys.length ≤ 100000) (hG : G ⟨wipeZ z1.sl vs, z1.ob⟩)
    (h : ∀ (i : Nat) (y : Sl) (d : PyData), ys[i]? = some y → fs[i]? = some d → GD X.K vs g y ⟨wipeZ z1.sl vs, z1.ob⟩ fun z2 => ∀ s H C cl fp, WE (Blk X scope s H C cl fp) elt z2 fun x z4 => x = .sh d ∧ z4.ob = z1.ob)
    (hQ : Q (.sh (.list fs)) z1) : LcD X tg elt [] scope vs g (FrzK Q) ys G z1 := by
  refine ⟨hlen, fun i acc om => acc = (fs.take i).map .sh ∧ om = z1.ob, ⟨by simp, rfl⟩, ?_, ?_, ?_⟩
  · rintro i acc om ⟨_, rfl⟩
    exact hG
  · rintro i y acc om hy ⟨rfl, rfl⟩ _
    have hi : i < fs.length := by
      have := (List.getElem?_eq_some_iff.mp hy).1
      omega
    have hd : fs[i]? = some fs[i] := List.getElem?_eq_getElem hi
    intro c w σ v k bb r hk
    refine h i y _ hy hd c w σ v k bb r fun w' σ' z' b' l hw hq => hk w' σ' z' b' l hw fun s H C cl fp => ?_
    refine ⟨fun _ s2 H2 C2 cl2 fp2 => (hq s2 H2 C2 cl2 fp2).mono fun x z4 ⟨e1, e2⟩ => ⟨?_, e2⟩, fun h => by cases h⟩
    rw [e1, List.take_add_one, hd, List.map_append]
    rfl
  · rintro acc om ⟨rfl, rfl⟩ _
    rw [hl, List.take_of_length_le (Nat.le_refl _)]
    exact ⟨fs, allSh_map fs, hQ⟩
theorem lcd_filter (fs : List (Option PyData)) (hl : ys.length = fs.length) (hlen : ys.length ≤ 100000) (hG : G ⟨wipeZ z1.sl vs, z1.ob⟩)
    (h : ∀ (i : Nat) (y : Sl) (o : Option PyData), ys[i]? = some y → fs[i]? = some o → GD X.K vs g y ⟨wipeZ z1.sl vs, z1.ob⟩ fun z2 => ∀ s H C cl fp, WT (Blk X scope s H C cl fp) t z2 fun b z3 => b = o.isSome ∧ z3.ob = z1.ob ∧ ∀ d, o = some d → ∀ s H C cl fp, WE (Blk X scope s H C cl fp) elt z3 fun x z4 => x = .sh d ∧ z4.ob = z1.ob)
    (hQ : Q (.sh (.list (fs.filterMap _root_.id))) z1) : LcD X tg elt [t] scope vs g (FrzK Q) ys G z1 := by
  refine ⟨hlen, fun i acc om => acc = ((fs.take i).filterMap _root_.id).map .sh ∧ om = z1.ob, ⟨by simp, rfl⟩, ?_, ?_, ?_⟩
  · rintro i acc om ⟨_, rfl⟩
    exact hG
  · rintro i y acc om hy ⟨rfl, rfl⟩ _
    have hi : i < fs.length := by
      have := (List.getElem?_eq_some_iff.mp hy).1
      omega
    have hd : fs[i]? = some fs[i] := List.getElem?_eq_getElem hi
    intro c w σ v k bb r hk
    refine h i y _ hy hd c w σ v k bb r fun w' σ' z' b' l hw hq => hk w' σ' z' b' l hw fun s H C cl fp => ?_
    refine (hq s H C cl fp).mono fun b z3 ⟨hb, e3, he⟩ => ⟨fun h1 s2 H2 C2 cl2 fp2 => ?_, fun h1 => ⟨?_, e3⟩⟩
    · rw [hb] at h1
      obtain ⟨d, hd2⟩ := Option.isSome_iff_exists.mp h1
      refine (he d hd2 s2 H2 C2 cl2 fp2).mono fun x z4 ⟨e1, e2⟩ => ⟨?_, e2⟩
      rw [e1, List.take_add_one, hd, hd2, List.filterMap_append, List.map_append]
      rfl
    · rw [hb] at h1
      have hn : fs[i] = none := by
        cases e : fs[i] with
        | none => rfl
        | some d =>
          rw [e] at h1
          cases h1
      rw [List.take_add_one, hd, hn, List.filterMap_append, List.map_append]
      simp
  · rintro acc om ⟨rfl, rfl⟩ _
    rw [hl, List.take_of_length_le (Nat.le_refl _)]
    exact ⟨_, allSh_map _, hQ⟩
end
section
variable {P : Program} {w : World} {K : PySem.W.Frag} {mg : Str → Option Value} {base : Heap} {X : Cy} {N : List Str} {sc : Scope} {k : Nat}
theorem Good.inB (g : Good X P w K mg base N sc k) {scope : Scope} {s : Shared} {H : Hp} {C : Addr} {cl : List (Str × Addr)} {fp : List Addr} {e : Expr} {z : Z} {Q : Sl → Z → Prop} (l : List (Str × Nat)) (gl : List Str) (h1 : l.all (nmB N (relS scope sc)) = true) (h2 : gl.all (gnB (relS scope sc)) = true)
    (h : Nms (Blk X scope s H C cl fp) l → Gns (Blk X scope s H C cl fp) gl → WE (Blk X scope s H C cl fp) e z Q) : WE (Blk X scope s H C cl fp) e z Q := h (g.bnm h1) (g.bgn h2)
theorem Good.inBT (g : Good X P w K mg base N sc k) {scope : Scope} {s : Shared} {H : Hp} {C : Addr} {cl : List (Str × Addr)} {fp : List Addr} {e : Expr} {z : Z} {Q : Bool → Z → Prop} (l : List (Str × Nat)) (gl : List Str) (h1 : l.all (nmB N (relS scope sc)) = true) (h2 : gl.all (gnB (relS scope sc)) = true)
    (h : Nms (Blk X scope s H C cl fp) l → Gns (Blk X scope s H C cl fp) gl → WT (Blk X scope s H C cl fp) e z Q) : WT (Blk X scope s H C cl fp) e z Q := h (g.bnm h1) (g.bgn h2)
/-- a pair of names as a comprehension's target -/
theorem Good.bpg2 (g : Good X P w K mg base N sc k) {scope : Scope} {s : Shared} {H : Hp} {C : Addr} {cl : List (Str × Addr)} {fp : List Addr} {x y : Str} {i j : Nat} {p1 p2 pos : Pos} {kk : Nat} (h : (decide (N[i]? = some x) && nkB ((relS scope sc).names.lookup x) .local && (decide (N[j]? = some y) && nkB ((relS scope sc).names.lookup y) .local)) = true) :
    PG (Blk X scope s H C cl fp) (.Tuple [.Name x p1, .Name y p2] kk pos) (gTup X.K 2 (gNames [i, j])) := by
  rw [Bool.and_eq_true] at h
  exact pg_tup (X := Blk X scope s H C cl fp) (show X.calm = true from g.calm) (pgs_cons (g.bpg h.1) (pgs_cons (g.bpg h.2) pgs_nil))
theorem Good.bpg3 (g : Good X P w K mg base N sc k) {scope : Scope} {s : Shared} {H : Hp} {C : Addr} {cl : List (Str × Addr)} {fp : List Addr} {x y u : Str} {i j m : Nat} {p1 p2 p3 pos : Pos} {kk : Nat} (h : (decide (N[i]? = some x) && nkB ((relS scope sc).names.lookup x) .local && (decide (N[j]? = some y) && nkB ((relS scope sc).names.lookup y) .local) && (decide (N[m]? = some u) && nkB ((relS scope sc).names.lookup u) .local)) = true) :
    PG (Blk X scope s H C cl fp) (.Tuple [.Name x p1, .Name y p2, .Name u p3] kk pos) (gTup X.K 3 (gNames [i, j, m])) := by
  rw [Bool.and_eq_true, Bool.and_eq_true] at h
  exact pg_tup (X := Blk X scope s H C cl fp) (show X.calm = true from g.calm) (pgs_cons (g.bpg h.1.1) (pgs_cons (g.bpg h.1.2) (pgs_cons (g.bpg h.2) pgs_nil)))
end
theorem rd_eqN {X : Cy} {z : Z} {Q : Sl → Z → Prop} (h : Q (.sh (.bool true)) z) : RD X (compareOp .Eq) (.sh .none) (.sh .none) z Q := fun c w σ v u k b r1 r2 hk => by
  cases Dp_non r1
  cases Dp_non r2
  exact rB_of op_eq ⟨rfl, hk _ _ w z b (.refl w) (vB true) h⟩
/-- the built-ins that a text does not bind -/
structure Bare (mg : Str → Option Value) : Prop where
  len : mg "len" = none
  abs : mg "abs" = none
  int : mg "int" = none
  isi : mg "isinstance" = none
  list : mg "list" = none
  tup : mg "tuple" = none
  str : mg "str" = none
  bool : mg "bool" = none
  all : mg "all" = none
  any : mg "any" = none
  zip : mg "zip" = none
  range : mg "range" = none
  min : mg "min" = none
  max : mg "max" = none
  sorted : mg "sorted" = none
  set : mg "set" = none
  dict : mg "dict" = none
  repr : mg "repr" = none
  enum : mg "enumerate" = none
  sum : mg "sum" = none
  rev : mg "reversed" = none
  type : mg "type" = none
  ord : mg "ord" = none
  chr : mg "chr" = none
section
variable {P : Program} {w : World} {K : PySem.W.Frag} {mg : Str → Option Value} {base : Heap} {X : Cy} {N : List Str} {sc : Scope} {k : Nat}
theorem Good.loc (g : Good X P w K mg base N sc k) {x : Str} (h : nkB (sc.names.lookup x) .local = true) : X.env.scope.names.lookup x = some .local := by
  rw [g.sc]
  exact nkB_eq h
theorem Good.df_rec (g : Good X P w K mg base N sc k) {f : Addr} {fd : FuncData} {x : Str} {j : Nat} {ps : List Str} {R : Rl} (G : FnG P w K mg base CX0 j f fd ps (spD K ps.length R)) (hm : mg x = some (.ref f)) (hk : PySem.W.keepIn K (.ref f) = true) (hb : Binds K fd ps []) : Df P w K mg base x j ps R := ⟨f, fd, G, hm, hk, hb⟩
end
end Dl

namespace Dl
open PySem PySem.Spec L2 PpSet
open PyProof.Rows hiding St
/-! ### set comprehensions of ints; set(list of ints): turned from the library's of truths and of tuples -/
section
variable {X : Cx}
theorem addI_ok {pins : List (Addr × Obj)} {σ : St} {H : Hp} {s : Shared} {E : Value → Shared → Prop} {D : Addr} {S : Int → Bool} {n : Nat} {y : Int} {tk : Tok} {Q : Value → Shared → Prop} (I : Inv X pins σ H s) (hD : H D = some (SetO X.w D S n)) (room : n + 1 < scanBound)
    (h : ∀ s', Inv X pins σ (upd H D (SetO X.w D (fun j => S j || decide (j = y)) (if S y = true then n else n + 1))) s' → Q .none s') : wpAny (model X.prog X.w) X.A (call (.builtin "set.add") [.ref D, .int y tk]) Q E s := by
  have R := setO_get I hD
  refine setR_add R room fun h' sb new => ?_
  have he : ∃ u, h'.get? D = some u := by
    have ⟨o, _, _, _, ho, _⟩ := new
    exact ⟨o, ho⟩
  exact h _ (I.write (e := D) (t' := s.toks + 1) (by rw [hD]; trivial) (.inl rfl) (fun b u hb hu => (sb.2 b hb).trans hu) he (setO_new new))
def tScI (w : World) (wi : TI) (g : TG) (tt : TT) (te : TE) (vs : List Nat) : TE := fun σ H Q => wi σ H fun J H1 => ∀ D, H1 D = none → ∃ W : Nat → Nat → Hp → Prop, (∃ m, W 0 m (upd H1 D (SetO w D (fun _ => false) 0))) ∧ ∀ i m H, W i m H →
  (J.stop i H ∧ Q (.ref D) H) ∨ (J.go i H ∧ ∃ Nx : Hp → Prop, (∀ H', Nx H' → ∃ m', m' < m ∧ W (i + 1) m' H') ∧ ∀ x H', J.yld i H x H' → g x (wipe σ vs) H' fun σ2 H2 => wipe σ2 vs = wipe σ vs ∧ tt σ2 H2 fun b H3 =>
    if b = true then te σ2 H3 fun y H4 => ∃ (c : Int) (S : Int → Bool) (n : Nat), y = .int c ∧ H4 D = some (SetO w D S n) ∧ n + 1 < scanBound ∧ Nx (upd H4 D (SetO w D (fun j => S j || decide (j = c)) (if S c = true then n else n + 1))) else Nx H3)
theorem scI_core {pins : List (Addr × Obj)} {s : Shared} {σ : St} {H : Hp} {Q : VK} {elt tg iter : Expr} {ifs : List Expr} {scope : Scope} {own : List (Str × Nat)} {pos pos' : Pos} {wi : TI} {g : TG} {tt : TT} {te : TE} {use : Option (Value → Sem Unit)} {Qf : Value → Shared → Prop}
    (hc : X.calm = true) (hN : X.N.Nodup) (I : Inv X pins σ H s) (hi : PI X tg iter wi) (ok : BlkOk X.N X.env.scope scope own)
    (hg : ∀ (s : Shared) (H : Hp) (C : Addr) (cl : List (Str × Addr)) (fp : List Addr), PG (X.blk s H scope (compEnvC scope cl C X.env) fp) tg g) (ht : ∀ (s : Shared) (H : Hp) (C : Addr) (cl : List (Str × Addr)) (fp : List Addr), PTs (X.blk s H scope (compEnvC scope cl C X.env) fp) ifs tt)
    (he : ∀ (s : Shared) (H : Hp) (C : Addr) (cl : List (Str × Addr)) (fp : List Addr), PE (X.blk s H scope (compEnvC scope cl C X.env) fp) elt te) (hs : ∀ x, foldedSetIterable iter X.env x = pure x)
    (h : tScI X.w wi g tt te (own.map (·.2)) σ H Q)
    (hRR : ∀ D C s' m H', Inv X pins σ H' s' → Q (.ref D) H' → s'.heap.Ns C m → FpOk X pins H' C → compPost (model X.prog X.w) X.A X.xe use Qf (.ref D) C (.ok .next) s') :
    wpAny (model X.prog X.w) X.A (comprehension (.SetComp elt [⟨tg, iter, ifs, 0⟩] scope pos) scope X.env pos' (newSet (.type "set")) false (eval iter X.env) use) Qf X.xe s := by
  have hfree : ∀ y ∈ scope.names, y.2 = .free → ∃ c, X.env.cells.lookup y.1 = some c := fun y hy e => by
    rcases ok.free y hy e with k | k
    · exact I.ok.has _ (.inl k)
    · exact I.ok.has _ (.inr k)
  refine wpAny_comprehension_free (use := use) rfl hs (closure_ok hfree) ok.kind (fun y hy e => by rw [ok.uniq y hy, e])
    (thn (hi.run pins s σ H _ I h) fun xv s1 hx => thn hx fun itv s2 h2 => ?_)
  obtain ⟨it, fp, tn, J, H2, e, I2, T, st2, f2, q⟩ := h2
  subst e
  refine newSet_ok (newEnv_comp ?_)
  generalize hD : s2.heap.objs.size = D
  have hDn : H2 D = none := I2.hok.fresh (Nat.le_of_eq hD)
  obtain ⟨W, ⟨m0, w0⟩, turn⟩ := q D hDn
  -- the new list
  generalize hs3 : ({ s2 with heap := s2.heap.push { cls := .type "set", dict := none, data := .set #[] 0 (.fresh 0 0 (!X.w.params.followText "set-order")) } } : Shared) = s3
  have I3 : Inv X pins σ (upd H2 D (SetO X.w D (fun _ => false) 0)) s3 := by
    rw [← hs3]
    refine I2.laid (t' := s2.toks) (fun b o e => Heap.get?_push_of_some _ e) (Nat.le_of_eq hD) ?_
    rw [← hD]
    exact setO_new (setR_fresh X.w)
  have h3 : s3.heap = s2.heap.push { cls := .type "set", dict := none, data := .set #[] 0 (.fresh 0 0 (!X.w.params.followText "set-order")) } := by rw [← hs3]
  have sz : ∀ b ∈ fp, b < s2.heap.objs.size := fun b hb => by
    obtain ⟨o, e, _⟩ := T.obj _ _ st2 b hb
    exact Heap.lt_size e
  have f3 : ∀ b ∈ fp, FpOk X pins (upd H2 D (SetO X.w D (fun _ => false) 0)) b ∧ b < s3.heap.objs.size := fun b hb => by
    have hlt := sz b hb
    refine ⟨⟨?_, (f2 b hb).2⟩, by rw [h3, Heap.size_push]; exact Nat.lt_succ_of_lt hlt⟩
    rw [upd_ne (by rw [← hD]; exact Nat.ne_of_lt hlt)]
    exact (f2 b hb).1
  have st3 : tn 0 s3.heap := T.keep _ _ _ st2 fun b _ o e => by rw [h3]; exact Heap.get?_push_of_some _ e
  have I4 := block_start I3 ok hN f3
  have pg := hg s3 (upd H2 D (SetO X.w D (fun _ => false) 0)) s3.heap.objs.size (cellsFrom (s3.heap.objs.size + 1) scope.names (cloFrom X.env.cells scope.names [])) fp
  have pt := ht s3 (upd H2 D (SetO X.w D (fun _ => false) 0)) s3.heap.objs.size (cellsFrom (s3.heap.objs.size + 1) scope.names (cloFrom X.env.cells scope.names [])) fp
  have pe := he s3 (upd H2 D (SetO X.w D (fun _ => false) 0)) s3.heap.objs.size (cellsFrom (s3.heap.objs.size + 1) scope.names (cloFrom X.env.cells scope.names [])) fp
  show codeAny _ _ (.compStart (.SetComp elt [⟨tg, iter, ifs, 0⟩] scope pos) 0 (.ref it) (.ref D) (compEnvC scope (cellsFrom (s3.heap.objs.size + 1) scope.names (cloFrom X.env.cells scope.names [])) s3.heap.objs.size X.env)) (compPost (model X.prog X.w) X.A X.xe use Qf (.ref D) s3.heap.objs.size) { s3 with heap := pushCells (s3.heap.push { cls := .type "dict", data := .dict #[] }) scope.names }
  have nfp : ∀ b ∈ fp, (upd H2 D (SetO X.w D (fun _ => false) 0)) b = none := fun b hb => (f3 b hb).1.1
  generalize hce : compEnvC scope (cellsFrom (s3.heap.objs.size + 1) scope.names (cloFrom X.env.cells scope.names [])) s3.heap.objs.size X.env = ce at I4 pg pt pe ⊢
  have cL : ce.locals = s3.heap.objs.size := by subst hce; rfl
  generalize hH3 : upd H2 D (SetO X.w D (fun _ => false) 0) = H3 at I3 I4 pg pt pe w0 nfp f3
  generalize hs4 : ({ s3 with heap := pushCells (s3.heap.push { cls := .type "dict", data := .dict #[] }) scope.names } : Shared) = s4 at I4 ⊢
  have st4 : tn 0 s4.heap := T.keep _ _ _ st3 fun b _ o e => by rw [← hs4]; exact pushCells_keeps _ _ _ _ (Heap.get?_push_of_some _ e)
  have stat : ∀ {σ' : St} {H' : Hp} {s' : Shared}, Inv (X.blk s3 H3 scope ce fp) [] σ' H' s' → (∀ b ∈ fp, H' b = none) → ∀ b ∈ fp, FpOk (X.blk s3 H3 scope ce fp) [] H' b := fun {σ' H' s'} I' hn b hb =>
    ⟨hn b hb, (I'.ok.exf b hb).1, I'.ok.exfs b hb, .inl hb, fun x c e => (I'.ok.exf b hb).2 x c e, fun p hp => absurd (show p ∈ ([] : List (Addr × Obj)) ++ [] from hp) (by simp)⟩
  have loop : codeAny (model X.prog X.w) X.A (.compLoop (.SetComp elt [⟨tg, iter, ifs, 0⟩] scope pos) 0 (.ref it) (.ref D) ce) (compPost (model X.prog X.w) X.A X.xe use Qf (.ref D) s3.heap.objs.size) s4 := by
    refine compLoopS_any (fun n s' => ∃ i H', Inv (X.blk s3 H3 scope ce fp) [] (wipe σ (own.map (·.2))) H' s' ∧ tn i s'.heap ∧ (∀ b ∈ fp, H' b = none) ∧ W i n H') ?_ m0 ⟨0, H3, I4, st4, nfp, w0⟩
    rintro n s5 ⟨i, H5, I5, st5, n5, w5⟩
    rcases turn i n H5 w5 with ⟨stop, qq⟩ | ⟨go, Nx, hNx, step⟩
    · have td := T.done (X.blk s3 H3 scope ce fp) rfl rfl rfl hc i [] s5 _ H5 (fun _ _ => False) I5 (stat I5 n5) st5 stop
      refine thnF td fun r s6 ⟨hr, I6⟩ => ?_
      subst hr
      -- back in the def's context
      have I7 : Inv X pins σ H5 s6 := I3.call' (ch := fp) I6.os I6.base I6.hok I6.bare fun b hb => ⟨(f3 b hb).1.2.2.2.1, (f3 b hb).1.2.1, (f3 b hb).1.2.2.2.2.1, (f3 b hb).1.2.2.2.2.2⟩
      have nC : H5 s3.heap.objs.size = none := by
        have z : H5 ce.locals = none := I6.free
        rw [cL] at z
        exact z
      obtain ⟨m, hn, _⟩ := I6.loc
      have hn : s6.heap.Ns ce.locals m := hn
      rw [cL] at hn
      exact hRR D s3.heap.objs.size s6 m H5 I7 qq hn (I3.fpOk (Nat.le_refl _) nC)
    · have ti := T.item (X.blk s3 H3 scope ce fp) rfl rfl rfl hc i [] s5 _ H5 (fun _ _ => False) I5 (stat I5 n5) st5 go
      refine thnF ti fun r s6 ⟨u, hr, h6⟩ => ?_
      subst hr
      refine thnF h6 fun _ s7 ⟨x, H7, I7, r7, y7, st7, n7⟩ => ?_
      have I7' := I7.pinned (stat I7 n7) (T.obj _ _ st7)
      refine thnF (pg.run _ s7 _ H7 x u _ I7' r7 (step x H7 y7)) fun _ s8 ⟨σ8, H8, I8, hw8, q8⟩ => ?_
      refine thnF (pt.run _ s8 σ8 H8 _ I8 q8) fun b s9 ⟨H9, I9, q9⟩ => ?_
      -- the turn's end
      have fin : ∀ {s' : Shared} {H' : Hp}, Inv (X.blk s3 H3 scope ce fp) ([] ++ pinsAt fp s7.heap) σ8 H' s' → Nx H' → ∃ m, m < n ∧ ∃ i H', Inv (X.blk s3 H3 scope ce fp) [] (wipe σ (own.map (·.2))) H' s' ∧ tn i s'.heap ∧ (∀ b ∈ fp, H' b = none) ∧ W i m H' := fun {s' H'} I' nx => by
        obtain ⟨m', hm, w'⟩ := hNx H' nx
        have pin' : ∀ b ∈ fp, ∀ o, s7.heap.get? b = some o → s'.heap.get? b = some o ∧ H' b = none := fun b hb o e =>
          let z := I'.pin (b, o) (List.mem_append_right _ (List.mem_append_right _ (mem_pinsAt hb e)))
          ⟨z.1, z.2.1⟩
        have hl : (wipe σ (own.map (·.2))).length = σ8.length := by rw [← hw8, wipe_length]
        refine ⟨m', hm, i + 1, H', (I'.unpinned (pins := [])).weak hl (fun j v e => ?_), T.keep _ _ _ st7 fun b hb o e => (pin' b hb o e).1, fun b hb => ?_, w'⟩
        · rw [← hw8] at e
          exact (wipe_some e).1
        · obtain ⟨o, e, _⟩ := T.obj _ _ st7 b hb
          exact (pin' b hb o e).2
      cases b with
      | false =>
        simp only [Bool.false_eq_true, if_false] at q9 ⊢
        exact fin I9 q9
      | true =>
        simp only [if_true] at q9 ⊢
        refine thnF (pe.run _ s9 σ8 H9 _ I9 q9) fun z s10 ⟨yv, H10, I10, r10, cb, S0, n0, ey, hD10, hz10, nx⟩ => ?_
        subst ey
        obtain ⟨tk, rfl⟩ := (show ∃ t, z = Value.int cb t from r10)
        exact addI_ok (X := X.blk s3 H3 scope ce fp) I10 hD10 hz10 fun s11 I11 => fin I11 nx
  exact codeAny_compStart_set loop (T.self X.A 0 _ _ _ st4 loop)
/-- as a value -/
theorem pe_scI {elt tg iter : Expr} {ifs : List Expr} {scope : Scope} {own : List (Str × Nat)} {pos : Pos} {wi : TI} {g : TG} {tt : TT} {te : TE} (hc : X.calm = true) (hN : X.N.Nodup) (hi : PI X tg iter wi) (ok : BlkOk X.N X.env.scope scope own)
    (hg : ∀ (s : Shared) (H : Hp) (C : Addr) (cl : List (Str × Addr)) (fp : List Addr), PG (X.blk s H scope (compEnvC scope cl C X.env) fp) tg g) (ht : ∀ (s : Shared) (H : Hp) (C : Addr) (cl : List (Str × Addr)) (fp : List Addr), PTs (X.blk s H scope (compEnvC scope cl C X.env) fp) ifs tt)
    (he : ∀ (s : Shared) (H : Hp) (C : Addr) (cl : List (Str × Addr)) (fp : List Addr), PE (X.blk s H scope (compEnvC scope cl C X.env) fp) elt te) (hs : ∀ x, foldedSetIterable iter X.env x = pure x := by intro _; rfl) :
    PE X (.SetComp elt [⟨tg, iter, ifs, 0⟩] scope pos) (tScI X.w wi g tt te (own.map (·.2))) := by
  refine ⟨fun pins s σ H Q I h => ?_⟩
  rw [eval_SetComp]
  refine scI_core hc hN I hi ok hg ht he hs h fun D C s' m H' I' q hn f => ⟨m, hn, fun h'' sb => ?_⟩
  obtain ⟨f0, f1, f2, f3, f4, f5⟩ := f
  exact ⟨.ref D, H', I'.turned (t' := s'.toks) (fun b o hb e => (sb.2 b hb).trans e) f0 f1 f3 f4 f5, rfl, q⟩

end
section
variable {P : Program} {w : World} {A : Around} {E : Value → Shared → Prop} {s : Shared}
set_option maxHeartbeats 3200000 in
theorem call_set_listI {l : Addr} {items : Array Value} (ns : List Int) {Q : Value → Shared → Prop} (hh : A.handled = none) (hl : s.heap.IsList l items) (hit : IntsAre items.toList ns) (hb : ns.length + 1 < scanBound)
    (h : ∀ (h' : Heap) (tk c : Nat), SetR w h' s.heap.objs.size (fun j => decide (j ∈ ns)) c → c ≤ ns.length → (∀ b o, s.heap.get? b = some o → h'.get? b = some o) → Q (.ref s.heap.objs.size) { s with heap := h', toks := tk }) :
    wpAny (model P w) A (call (.type "set") [.ref l]) Q E s := by
  have hisz : items.size = ns.length := by
    have q := IntsAre.length hit
    rw [Array.length_toList] at q
    exact q
  obtain ⟨c, tl, hmro⟩ := F.called_set.mro
  have hmade := F.called_set.made
  have hsub := F.called_set.sub
  refine wpAny_call (codeAny_of_tree ?_)
  show wpAny _ _ (callAny (.type "set") _) _ _ _
  refine wpAny_pure ⟨Code.quiet_builtin _ (by decide +kernel), codeAny_builtin F.entry_type_call ?_⟩
  rw [Around.under_plain (weight_type_call_type "set" [.ref l] []) rfl]
  have h1 := F.called_set.notType
  have h2 := F.called_set.canCreate
  have hct := F.typeCall_set_1 (.ref l)
  repeat (any_goals (first | assumption | wp_step))

  refine codeAny_mono (code_set_led1 (.ref l) (E := E) (Q₁ := fun obj s₁ => obj = .ref s.heap.objs.size ∧ s₁ = { s with heap := s.heap.push { cls := .type "set", dict := none, data := .set #[] 0 (.fresh 0 0 (!w.params.followText "set-order")) } }) ⟨rfl, rfl⟩) fun r s₁ hr => ?_
  cases r with
  | error e => exact hr
  | ok fl =>
    cases fl with
    | ret obj =>
      obtain ⟨rfl, rfl⟩ := hr
      have hS : (s.heap.push { cls := .type "set", dict := none, data := .set #[] 0 (.fresh 0 0 (!w.params.followText "set-order")) }).get? s.heap.objs.size = some { cls := .type "set", dict := none, data := .set #[] 0 (.fresh 0 0 (!w.params.followText "set-order")) } := Heap.get?_push_size _ rfl
      have hT : Shared.TypeIs { s with heap := s.heap.push { cls := .type "set", dict := none, data := .set #[] 0 (.fresh 0 0 (!w.params.followText "set-order")) } } (.ref s.heap.objs.size) "set" := ⟨_, hS, rfl⟩
      have hli := F.called_set.init.lookup
      have hbi := F.called_set.init.bind (.ref s.heap.objs.size)
      repeat (any_goals (first | assumption | wp_step))

      refine codeAny_mono (codeAny_call_builtin (R := wants (fun r s₂ => r = .none ∧ ∃ h' tk c, s₂ = { s with heap := h', toks := tk } ∧ SetR w h' s.heap.objs.size (fun j => decide (j ∈ ns)) c ∧ c ≤ ns.length ∧
          (∀ b o, s.heap.get? b = some o → h'.get? b = some o)) E) F.called_set.init.plain F.entry_set_init (check_set_init_1 hT ?_)) fun r₂ s₂ hr₂ => ?_
      · obtain ⟨ol, hol, hcl, nl, hdl⟩ := hl
        obtain ⟨ocls, odict, odata, oslots⟩ := ol
        simp only at hcl hdl
        subst hcl; subst hdl
        have hol' : (s.heap.push { cls := .type "set", dict := none, data := .set #[] 0 (.fresh 0 0 (!w.params.followText "set-order")) }).get? l = some { cls := .type "list", dict := odict, data := .seq items nl, slots := oslots } := Heap.get?_push_of_some _ hol
        have hsls := F.sub_list_set
        have hslf := F.sub_list_frozenset
        have hne : (Value.type "list" == Value.type "dict") = false := by decide
        have hl1 : (s.heap.push { cls := .type "set", dict := none, data := .set #[] 0 (.fresh 0 0 (!w.params.followText "set-order")) }).IsList l items := ⟨_, hol', rfl, nl, rfl⟩
        unfold Builtin.«set.__init__» noKeywords Builtin.Frozenset.updateFrom
        generalize hPI : pyIter = PI
        wp_walk
        subst hPI

        refine wpAny_pyIter_list hl1 ?_
        refine wpAny_bind (wpAny_runValue ?_)
        have hlS : l < s.heap.objs.size := Heap.lt_size hol
        have hh3 : A.in1.in1.in1.handled = none := by simp [hh]
        have hz1 : (s.heap.push { cls := .type "set", dict := none, data := .set #[] 0 (.fresh 0 0 (!w.params.followText "set-order")) }).objs.size = s.heap.objs.size + 1 := Heap.size_push ..
        have hneI : l ≠ (s.heap.push { cls := .type "set", dict := none, data := .set #[] 0 (.fresh 0 0 (!w.params.followText "set-order")) }).objs.size := by
          rw [Heap.size_push]; exact Nat.ne_of_lt (Nat.lt_succ_of_lt hlS)
        have hSf : s.heap.objs.size ∉ [(s.heap.push { cls := .type "set", dict := none, data := .set #[] 0 (.fresh 0 0 (!w.params.followText "set-order")) }).objs.size, l] := by
          rw [Heap.size_push]; simp only [List.mem_cons, List.mem_singleton, List.not_mem_nil, or_false, not_or]
          exact ⟨Nat.ne_of_lt (Nat.lt_succ_self _), Nat.ne_of_gt hlS⟩
        have hval : ∀ (i : Nat) (v : Value), items[i]? = some v → ∃ k t, ns[i]? = some k ∧ v = .int k t := fun i v hv => by
          have hi : i < ns.length := by rw [← hisz]; exact (Array.getElem?_eq_some_iff.mp hv).1
          obtain ⟨t, e⟩ := PyProof.Rows.IntsAre.int_at hit i v (by rw [Array.getElem?_toList]; exact hv)
          refine ⟨ns[i], t, List.getElem?_eq_getElem hi, ?_⟩
          rw [e, List.getD_eq_getElem?_getD, List.getElem?_eq_getElem hi] <;> rfl
        refine set_update_ints ((Walks.list hh3 _ l hneI items).toS) s.heap.objs.size
          hSf ns hisz hb hval (items.size - 0) 0 _ (by omega) (Nat.zero_le _)
          ⟨⟨_, Heap.get?_push_size _ rfl, rfl, rfl⟩, (hl1.push _)⟩ ?hS0 ?hR
        case hS0 =>
          have hget : ((s.heap.push { cls := .type "set", dict := none, data := .set #[] 0 (.fresh 0 0 (!w.params.followText "set-order")) }).push { cls := .type "list_iterator", data := .fields #[.ref l, .int 0 0] }).get? s.heap.objs.size
              = some { cls := .type "set", dict := none, data := .set #[] 0 (.fresh 0 0 (!w.params.followText "set-order")) } := Heap.get?_push_of_some _ hS
          exact ⟨0, Nat.le_refl 0, setR_new_at hget⟩
        case hR =>
          intro s' c' hm hc' hS'
          obtain ⟨h', g2, d', tk', os'⟩ := s'
          have eg : g2 = s.gens := hm.gens
          have ed : d' = s.drawn := hm.drawn
          have eo : os' = s.os := hm.os
          subst eg; subst ed; subst eo
          show wpAny _ _ _ _ _ _
          refine wpAny_pure ?_
          show wpAny _ _ (ret Value.none) _ _ _
          rw [hisz] at hc'
          refine wpAny_pure ⟨rfl, h', tk', c', rfl, hS', hc', fun b o e => ?_⟩
          have hb0 : b < s.heap.objs.size := Heap.lt_size e
          have hb1 : b ≠ s.heap.objs.size := Nat.ne_of_lt hb0
          have hb2 : b ≠ (s.heap.push { cls := .type "set", dict := none, data := .set #[] 0 (.fresh 0 0 (!w.params.followText "set-order")) }).objs.size := by
            rw [Heap.size_push]; exact Nat.ne_of_lt (Nat.lt_succ_of_lt hb0)
          exact hm.heap b o (by simp only [List.mem_cons, List.mem_singleton, List.not_mem_nil, or_false, not_or]; exact ⟨hb1, hb2⟩) (Heap.get?_push_of_some _ (Heap.get?_push_of_some _ e))

      · cases r₂ with
        | error e => exact hr₂
        | ok fl₂ =>
          cases fl₂ with
          | ret r =>
            obtain ⟨rfl, h', tk, c', rfl, hS', hc', hk'⟩ := hr₂
            repeat (any_goals (first | assumption | wp_step))
            exact h _ _ _ hS' hc' hk'
          | _ => exact hr₂.elim
    | _ => exact hr.elim

end
end Dl

namespace Dl
open PySem PySem.Spec L2 PpSet
open PyProof.Rows hiding St
/-! ### set comprehensions of ints with two fors: turned from the library's of lists -/
theorem scTurn2_out (elt t0 i0 t1 i1 : Expr) (ifs0 ifs1 : List Expr) (scope : Scope) (pos : Pos) (it acc : Value) (env : Env) :
    compTurn (.SetComp elt [⟨t0, i0, ifs0, 0⟩, ⟨t1, i1, ifs1, 0⟩] scope pos) 0 it acc env = (do
      standAt i0.pos
      match ← pyNext it with
      | none => pure (.done .next)
      | some v =>
        letOwnedTupleGo t0 it v
        assign t0 env v
        let mut ok := true
        for c in ifs0 do
          if ok then ok ← isTrue c env (eval c env)
        if ok then
          let x ← eval i1 env
          standAt i1.pos
          let x ← foldedSetIterable i1 env x
          let _ ← runOwn (.compStart (.SetComp elt [⟨t0, i0, ifs0, 0⟩, ⟨t1, i1, ifs1, 0⟩] scope pos) 1 (← holding [x] (pyIter x)) acc env) env
        again (.compLoop (.SetComp elt [⟨t0, i0, ifs0, 0⟩, ⟨t1, i1, ifs1, 0⟩] scope pos) 0 it acc env)) := by rfl
theorem scTurn2_in (elt t0 i0 t1 i1 : Expr) (ifs0 ifs1 : List Expr) (scope : Scope) (pos : Pos) (it acc : Value) (env : Env) :
    compTurn (.SetComp elt [⟨t0, i0, ifs0, 0⟩, ⟨t1, i1, ifs1, 0⟩] scope pos) 1 it acc env = (do
      standAt i1.pos
      match ← pyNext it with
      | none => pure (.done .next)
      | some v =>
        letOwnedTupleGo t1 it v
        assign t1 env v
        let mut ok := true
        for c in ifs1 do
          if ok then ok ← isTrue c env (eval c env)
        if ok then
          (do let v ← eval elt env; standAt elt.pos; let _ ← call (.builtin "set.add") [acc, v])
        again (.compLoop (.SetComp elt [⟨t0, i0, ifs0, 0⟩, ⟨t1, i1, ifs1, 0⟩] scope pos) 1 it acc env)) := by rfl

section
variable {prog : Program} {w : World} {A : Around} {R : Result → Shared → Prop} {s : Shared} {elt t0 i0 t1 i1 : Expr} {ifs0 ifs1 : List Expr} {scope : Scope} {pos : Pos} {it acc : Value} {env : Env}
/-- the loop of the first clause -/
theorem scLoop2_out (hs : ∀ x, foldedSetIterable i1 env x = pure x) (I : Nat → Shared → Prop)
    (turn : ∀ n s, I n s → wpAny (model prog w) A (pyNext it) (fun r s₁ => match r with
      | none => R (.ok .next) s₁
      | some v => wpAny (model prog w) A (letOwnedTupleGo t0 it v) (fun _ s₁' => wpAny (model prog w) A (assign t0 env v) (fun _ s₂ =>
          wpAny (model prog w) A (forIn ifs0 true fun c r => if r = true then do let ok ← isTrue c env (eval c env); pure (ForInStep.yield ok) else pure (ForInStep.yield r)) (fun ok s₃ =>
            if ok = true then wpAny (model prog w) A (eval i1 env) (fun x s₄ => wpAny (model prog w) A (pyIter x) (fun it1 s₅ =>
              codeAny (model prog w) A (.compStart (.SetComp elt [⟨t0, i0, ifs0, 0⟩, ⟨t1, i1, ifs1, 0⟩] scope pos) 1 it1 acc env) (fun r s' => match r with
                | .ok _ => ∃ m, m < n ∧ I m s'
                | .error _ => False) s₅) (notedBy (model prog w) A env fun e s' => R (.error e) s') s₄) (notedBy (model prog w) A env fun e s' => R (.error e) s') s₃
            else ∃ m, m < n ∧ I m s₃) (notedBy (model prog w) A env fun e s' => R (.error e) s') s₂) (notedBy (model prog w) A env fun e s' => R (.error e) s') s₁') (notedBy (model prog w) A env fun e s' => R (.error e) s') s₁) (notedBy (model prog w) A env fun e s' => R (.error e) s') s)
    (n : Nat) (h : I n s) :
    codeAny (model prog w) A (.compLoop (.SetComp elt [⟨t0, i0, ifs0, 0⟩, ⟨t1, i1, ifs1, 0⟩] scope pos) 0 it acc env) R s := by
  refine codeAny_loop rfl I (fun n s hI => ?_) n h
  show wpAny _ A ((compTurn (.SetComp elt [⟨t0, i0, ifs0, 0⟩, ⟨t1, i1, ifs1, 0⟩] scope pos) 0 it acc env).onRaise (fun x => do noteFrame x env; theTreesLotGoes x)) _ _ s
  refine wpAny_noted ?_
  rw [scTurn2_out]
  refine wpAny_bind (wpAny_standAt (wpAny_bind (wpAny_mono (turn n s hI) (fun r s₁ h₁ => ?_) fun _ _ h' => h')))
  cases r with
  | none => exact wpAny_pure h₁
  | some v =>
    refine wpAny_bind (wpAny_mono h₁ (fun _ s₁' h₁' => ?_) fun _ _ h' => h')
    refine wpAny_bind (wpAny_mono h₁' (fun _ s₂ h₂ => wpAny_bind (wpAny_mono h₂ (fun ok s₃ h₃ => ?_) fun _ _ h' => h')) fun _ _ h' => h')
    cases ok with
    | false => exact wpAny_pure ⟨rfl, h₃⟩
    | true =>
      refine wpAny_bind (wpAny_mono h₃ (fun x s₄ h₄ => ?_) fun _ _ h' => h')
      refine wpAny_bind (wpAny_standAt (wpAny_bind (wpAny_of_eq (hs x) (wpAny_bind (wpAny_holding (wpAny_mono h₄ (fun it1 s₅ h₅ => ?_) fun _ _ h' => h'))))))
      refine wpAny_bind (wpAny_runOwn ?_)
      rw [Around.mark_none]
      refine codeAny_mono h₅ fun r s' hr => ?_
      cases r with
      | ok f =>
        first
          | exact wpAny_pure ⟨rfl, hr⟩
          | exact wpAny_bind (wpAny_pure (wpAny_pure ⟨rfl, hr⟩))
      | error e => exact hr.elim
/-- the loop of the second -/
theorem scLoop2_in (I : Nat → Shared → Prop)
    (turn : ∀ n s, I n s → wpAny (model prog w) A (pyNext it) (fun r s₁ => match r with
      | none => R (.ok .next) s₁
      | some v => wpAny (model prog w) A (letOwnedTupleGo t1 it v) (fun _ s₁' => wpAny (model prog w) A (assign t1 env v) (fun _ s₂ =>
          wpAny (model prog w) A (forIn ifs1 true fun c r => if r = true then do let ok ← isTrue c env (eval c env); pure (ForInStep.yield ok) else pure (ForInStep.yield r)) (fun ok s₃ =>
            if ok = true then wpAny (model prog w) A (eval elt env) (fun x s₄ =>
              wpAny (model prog w) A (call (.builtin "set.add") [acc, x]) (fun _ s₅ => ∃ m, m < n ∧ I m s₅) (notedBy (model prog w) A env fun e s' => R (.error e) s') s₄) (notedBy (model prog w) A env fun e s' => R (.error e) s') s₃
            else ∃ m, m < n ∧ I m s₃) (notedBy (model prog w) A env fun e s' => R (.error e) s') s₂) (notedBy (model prog w) A env fun e s' => R (.error e) s') s₁') (notedBy (model prog w) A env fun e s' => R (.error e) s') s₁) (notedBy (model prog w) A env fun e s' => R (.error e) s') s)
    (n : Nat) (h : I n s) :
    codeAny (model prog w) A (.compLoop (.SetComp elt [⟨t0, i0, ifs0, 0⟩, ⟨t1, i1, ifs1, 0⟩] scope pos) 1 it acc env) R s := by
  refine codeAny_loop rfl I (fun n s hI => ?_) n h
  show wpAny _ A ((compTurn (.SetComp elt [⟨t0, i0, ifs0, 0⟩, ⟨t1, i1, ifs1, 0⟩] scope pos) 1 it acc env).onRaise (fun x => do noteFrame x env; theTreesLotGoes x)) _ _ s
  refine wpAny_noted ?_
  rw [scTurn2_in]
  refine wpAny_bind (wpAny_standAt (wpAny_bind (wpAny_mono (turn n s hI) (fun r s₁ h₁ => ?_) fun _ _ h' => h')))
  cases r with
  | none => exact wpAny_pure h₁
  | some v =>
    refine wpAny_bind (wpAny_mono h₁ (fun _ s₁' h₁' => ?_) fun _ _ h' => h')
    refine wpAny_bind (wpAny_mono h₁' (fun _ s₂ h₂ => wpAny_bind (wpAny_mono h₂ (fun ok s₃ h₃ => ?_) fun _ _ h' => h')) fun _ _ h' => h')
    cases ok with
    | false => exact wpAny_pure ⟨rfl, h₃⟩
    | true =>
      exact wpAny_bind (wpAny_bind (wpAny_mono h₃ (fun x s₄ h₄ => wpAny_bind (wpAny_standAt (wpAny_bind (wpAny_mono h₄ (fun _ s₅ h₅ => wpAny_pure (wpAny_pure ⟨rfl, h₅⟩)) fun _ _ h' => h')))) fun _ _ h' => h'))
/-- the second clause's start -/
theorem scStart1_ok (h0 : codeAny (model prog w) A (.compLoop (.SetComp elt [⟨t0, i0, ifs0, 0⟩, ⟨t1, i1, ifs1, 0⟩] scope pos) 1 it acc env) R s)
    (h : wpAny (model prog w) A (pyIter it) (fun it' s' => codeAny (model prog w) A (.compLoop (.SetComp elt [⟨t0, i0, ifs0, 0⟩, ⟨t1, i1, ifs1, 0⟩] scope pos) 1 it' acc env) R s')
      (notedBy (model prog w) A env fun x s' => R (.error x) s') s) :
    codeAny (model prog w) A (.compStart (.SetComp elt [⟨t0, i0, ifs0, 0⟩, ⟨t1, i1, ifs1, 0⟩] scope pos) 1 it acc env) R s := by
  refine codeAny_of_tree ?_
  show wpAny _ _ ((compStart (.SetComp elt [⟨t0, i0, ifs0, 0⟩, ⟨t1, i1, ifs1, 0⟩] scope pos) 1 it acc env).onRaise (fun x => do noteFrame x env; standAt theWindowsPlace)) _ _ s
  refine wpAny_notedAt ?_
  unfold compStart
  show wpAny _ _ (ask >>= _) _ _ s
  refine wpAny_bind (wpAny_askSetting (wpAny_ite ?_))
  split
  · first
      | exact wpAny_bind (wpAny_pure (wpAny_pure (And.intro rfl h0)))
      | exact wpAny_pure (And.intro rfl h0)
  · first
      | exact wpAny_bind (wpAny_rule (wpAny_bind (wpAny_standAt (wpAny_bind (wpAny_mono h (fun it' s' h' => wpAny_pure (And.intro rfl h')) fun _ _ x => x)))))
      | (refine wpAny_bind (wpAny_rule ?_); show wpAny _ _ (standAt i1.pos >>= _) _ _ s; exact wpAny_bind (wpAny_standAt (wpAny_bind (wpAny_mono h (fun it' s' h' => wpAny_pure (And.intro rfl h')) fun _ _ x => x))))
end

section
variable {X : Cx}
set_option maxHeartbeats 3200000
def tSc2 (w : World) (wi : TI) (g : TG) (tt : TT) (wi1 : TI) (g1 : TG) (tt1 : TT) (te : TE) (vs vs1 : List Nat) : TE := fun σ H Q => wi σ H fun J H1 => ∀ D, H1 D = none → ∃ W : Nat → Nat → Hp → Prop, (∃ m, W 0 m (upd H1 D (SetO w D (fun _ => false) 0))) ∧ ∀ i m H, W i m H →
  (J.stop i H ∧ Q (.ref D) H) ∨ (J.go i H ∧ ∃ Nx : Hp → Prop, (∀ H', Nx H' → ∃ m', m' < m ∧ W (i + 1) m' H') ∧ ∀ x H', J.yld i H x H' → g x (wipe σ vs) H' fun σ2 H2 => wipe σ2 vs = wipe σ vs ∧ tt σ2 H2 fun b H3 =>
    if b = true then wi1 σ2 H3 fun J1 H4 => ∃ W1 : Nat → Nat → Hp → Prop, (∃ m, W1 0 m H4) ∧ ∀ j k H, W1 j k H →
      (J1.stop j H ∧ Nx H) ∨ (J1.go j H ∧ ∃ Nx1 : Hp → Prop, (∀ H', Nx1 H' → ∃ k', k' < k ∧ W1 (j + 1) k' H') ∧ ∀ x H', J1.yld j H x H' → g1 x (wipe σ2 vs1) H' fun σ3 H5 => wipe σ3 vs1 = wipe σ2 vs1 ∧ tt1 σ3 H5 fun b H6 =>
        if b = true then te σ3 H6 fun y H7 => ∃ (c : Int) (S : Int → Bool) (n : Nat), y = .int c ∧ H7 D = some (SetO w D S n) ∧ n + 1 < scanBound ∧ Nx1 (upd H7 D (SetO w D (fun j => S j || decide (j = c)) (if S c = true then n else n + 1))) else Nx1 H6)
    else Nx H3)

theorem sc2_core {pins : List (Addr × Obj)} {s : Shared} {σ : St} {H : Hp} {Q : VK} {elt tg iter tg1 iter1 : Expr} {ifs ifs1 : List Expr} {scope : Scope} {own : List (Str × Nat)} {vs1 : List Nat} {pos pos' : Pos} {wi wi1 : TI} {g g1 : TG} {tt tt1 : TT} {te : TE} {use : Option (Value → Sem Unit)} {Qf : Value → Shared → Prop}
    (hc : X.calm = true) (hN : X.N.Nodup) (I : Inv X pins σ H s) (hi : PI X tg iter wi) (ok : BlkOk X.N X.env.scope scope own) (hv : ∀ i ∈ vs1, i ∈ own.map (·.2))
    (hg : ∀ (s : Shared) (H : Hp) (C : Addr) (cl : List (Str × Addr)) (fp : List Addr), PG (X.blk s H scope (compEnvC scope cl C X.env) fp) tg g) (ht : ∀ (s : Shared) (H : Hp) (C : Addr) (cl : List (Str × Addr)) (fp : List Addr), PTs (X.blk s H scope (compEnvC scope cl C X.env) fp) ifs tt)
    (he : ∀ (s : Shared) (H : Hp) (C : Addr) (cl : List (Str × Addr)) (fp : List Addr), PE (X.blk s H scope (compEnvC scope cl C X.env) fp) elt te) (hs : ∀ x, foldedSetIterable iter X.env x = pure x)
    (hi1 : ∀ (s : Shared) (H : Hp) (C : Addr) (cl : List (Str × Addr)) (fp : List Addr), PI (X.blk s H scope (compEnvC scope cl C X.env) fp) tg1 iter1 wi1)
    (hg1 : ∀ (s : Shared) (H : Hp) (C : Addr) (cl : List (Str × Addr)) (fp : List Addr), PG (X.blk s H scope (compEnvC scope cl C X.env) fp) tg1 g1)
    (ht1 : ∀ (s : Shared) (H : Hp) (C : Addr) (cl : List (Str × Addr)) (fp : List Addr), PTs (X.blk s H scope (compEnvC scope cl C X.env) fp) ifs1 tt1)
    (hs1 : ∀ env x, foldedSetIterable iter1 env x = pure x)
    (h : tSc2 X.w wi g tt wi1 g1 tt1 te (own.map (·.2)) vs1 σ H Q)
    (hRR : ∀ D C s' m H', Inv X pins σ H' s' → Q (.ref D) H' → s'.heap.Ns C m → FpOk X pins H' C → compPost (model X.prog X.w) X.A X.xe use Qf (.ref D) C (.ok .next) s') :
    wpAny (model X.prog X.w) X.A (comprehension (.SetComp elt [⟨tg, iter, ifs, 0⟩, ⟨tg1, iter1, ifs1, 0⟩] scope pos) scope X.env pos' (newSet (.type "set")) false (eval iter X.env) use) Qf X.xe s := by
  have hfree : ∀ y ∈ scope.names, y.2 = .free → ∃ c, X.env.cells.lookup y.1 = some c := fun y hy e => by
    rcases ok.free y hy e with k | k
    · exact I.ok.has _ (.inl k)
    · exact I.ok.has _ (.inr k)
  refine wpAny_comprehension_free (use := use) rfl hs (closure_ok hfree) ok.kind (fun y hy e => by rw [ok.uniq y hy, e])
    (thn (hi.run pins s σ H _ I h) fun xv s1 hx => thn hx fun itv s2 h2 => ?_)
  obtain ⟨it, fp, tn, J, H2, e, I2, T, st2, f2, q⟩ := h2
  subst e
  refine newSet_ok (newEnv_comp ?_)
  generalize hD : s2.heap.objs.size = D
  have hDn : H2 D = none := I2.hok.fresh (Nat.le_of_eq hD)
  obtain ⟨W, ⟨m0, w0⟩, turn⟩ := q D hDn
  -- the new list
  generalize hs3 : ({ s2 with heap := s2.heap.push { cls := .type "set", dict := none, data := .set #[] 0 (.fresh 0 0 (!X.w.params.followText "set-order")) } } : Shared) = s3
  have I3 : Inv X pins σ (upd H2 D (SetO X.w D (fun _ => false) 0)) s3 := by
    rw [← hs3]
    refine I2.laid (t' := s2.toks) (fun b o e => Heap.get?_push_of_some _ e) (Nat.le_of_eq hD) ?_
    rw [← hD]
    exact setO_new (setR_fresh X.w)
  have h3 : s3.heap = s2.heap.push { cls := .type "set", dict := none, data := .set #[] 0 (.fresh 0 0 (!X.w.params.followText "set-order")) } := by rw [← hs3]
  have sz : ∀ b ∈ fp, b < s2.heap.objs.size := fun b hb => by
    obtain ⟨o, e, _⟩ := T.obj _ _ st2 b hb
    exact Heap.lt_size e
  have f3 : ∀ b ∈ fp, FpOk X pins (upd H2 D (SetO X.w D (fun _ => false) 0)) b ∧ b < s3.heap.objs.size := fun b hb => by
    have hlt := sz b hb
    refine ⟨⟨?_, (f2 b hb).2⟩, by rw [h3, Heap.size_push]; exact Nat.lt_succ_of_lt hlt⟩
    rw [upd_ne (by rw [← hD]; exact Nat.ne_of_lt hlt)]
    exact (f2 b hb).1
  have st3 : tn 0 s3.heap := T.keep _ _ _ st2 fun b _ o e => by rw [h3]; exact Heap.get?_push_of_some _ e
  have I4 := block_start I3 ok hN f3
  have pg := hg s3 (upd H2 D (SetO X.w D (fun _ => false) 0)) s3.heap.objs.size (cellsFrom (s3.heap.objs.size + 1) scope.names (cloFrom X.env.cells scope.names [])) fp
  have pt := ht s3 (upd H2 D (SetO X.w D (fun _ => false) 0)) s3.heap.objs.size (cellsFrom (s3.heap.objs.size + 1) scope.names (cloFrom X.env.cells scope.names [])) fp
  have pe := he s3 (upd H2 D (SetO X.w D (fun _ => false) 0)) s3.heap.objs.size (cellsFrom (s3.heap.objs.size + 1) scope.names (cloFrom X.env.cells scope.names [])) fp
  have pi1 := hi1 s3 (upd H2 D (SetO X.w D (fun _ => false) 0)) s3.heap.objs.size (cellsFrom (s3.heap.objs.size + 1) scope.names (cloFrom X.env.cells scope.names [])) fp
  have pg1 := hg1 s3 (upd H2 D (SetO X.w D (fun _ => false) 0)) s3.heap.objs.size (cellsFrom (s3.heap.objs.size + 1) scope.names (cloFrom X.env.cells scope.names [])) fp
  have pt1 := ht1 s3 (upd H2 D (SetO X.w D (fun _ => false) 0)) s3.heap.objs.size (cellsFrom (s3.heap.objs.size + 1) scope.names (cloFrom X.env.cells scope.names [])) fp
  show codeAny _ _ (.compStart (.SetComp elt [⟨tg, iter, ifs, 0⟩, ⟨tg1, iter1, ifs1, 0⟩] scope pos) 0 (.ref it) (.ref D) (compEnvC scope (cellsFrom (s3.heap.objs.size + 1) scope.names (cloFrom X.env.cells scope.names [])) s3.heap.objs.size X.env)) (compPost (model X.prog X.w) X.A X.xe use Qf (.ref D) s3.heap.objs.size) { s3 with heap := pushCells (s3.heap.push { cls := .type "dict", data := .dict #[] }) scope.names }
  have nfp : ∀ b ∈ fp, (upd H2 D (SetO X.w D (fun _ => false) 0)) b = none := fun b hb => (f3 b hb).1.1
  generalize hce : compEnvC scope (cellsFrom (s3.heap.objs.size + 1) scope.names (cloFrom X.env.cells scope.names [])) s3.heap.objs.size X.env = ce at I4 pg pt pe pi1 pg1 pt1 ⊢
  have cL : ce.locals = s3.heap.objs.size := by subst hce; rfl
  generalize hH3 : upd H2 D (SetO X.w D (fun _ => false) 0) = H3 at I3 I4 pg pt pe pi1 pg1 pt1 w0 nfp f3
  generalize hs4 : ({ s3 with heap := pushCells (s3.heap.push { cls := .type "dict", data := .dict #[] }) scope.names } : Shared) = s4 at I4 ⊢
  have st4 : tn 0 s4.heap := T.keep _ _ _ st3 fun b _ o e => by rw [← hs4]; exact pushCells_keeps _ _ _ _ (Heap.get?_push_of_some _ e)
  have stat : ∀ {σ' : St} {H' : Hp} {s' : Shared}, Inv (X.blk s3 H3 scope ce fp) [] σ' H' s' → (∀ b ∈ fp, H' b = none) → ∀ b ∈ fp, FpOk (X.blk s3 H3 scope ce fp) [] H' b := fun {σ' H' s'} I' hn b hb =>
    ⟨hn b hb, (I'.ok.exf b hb).1, I'.ok.exfs b hb, .inl hb, fun x c e => (I'.ok.exf b hb).2 x c e, fun p hp => absurd (show p ∈ ([] : List (Addr × Obj)) ++ [] from hp) (by simp)⟩
  have loop : codeAny (model X.prog X.w) X.A (.compLoop (.SetComp elt [⟨tg, iter, ifs, 0⟩, ⟨tg1, iter1, ifs1, 0⟩] scope pos) 0 (.ref it) (.ref D) ce) (compPost (model X.prog X.w) X.A X.xe use Qf (.ref D) s3.heap.objs.size) s4 := by
    refine scLoop2_out (hs1 ce) (fun n s' => ∃ i H', Inv (X.blk s3 H3 scope ce fp) [] (wipe σ (own.map (·.2))) H' s' ∧ tn i s'.heap ∧ (∀ b ∈ fp, H' b = none) ∧ W i n H') ?_ m0 ⟨0, H3, I4, st4, nfp, w0⟩
    rintro n s5 ⟨i, H5, I5, st5, n5, w5⟩
    rcases turn i n H5 w5 with ⟨stop, qq⟩ | ⟨go, Nx, hNx, step⟩
    · have td := T.done (X.blk s3 H3 scope ce fp) rfl rfl rfl hc i [] s5 _ H5 (fun _ _ => False) I5 (stat I5 n5) st5 stop
      refine thnF td fun r s6 ⟨hr, I6⟩ => ?_
      subst hr
      -- back in the def's context
      have I7 : Inv X pins σ H5 s6 := I3.call' (ch := fp) I6.os I6.base I6.hok I6.bare fun b hb => ⟨(f3 b hb).1.2.2.2.1, (f3 b hb).1.2.1, (f3 b hb).1.2.2.2.2.1, (f3 b hb).1.2.2.2.2.2⟩
      have nC : H5 s3.heap.objs.size = none := by
        have z : H5 ce.locals = none := I6.free
        rw [cL] at z
        exact z
      obtain ⟨m, hn, _⟩ := I6.loc
      have hn : s6.heap.Ns ce.locals m := hn
      rw [cL] at hn
      exact hRR D s3.heap.objs.size s6 m H5 I7 qq hn (I3.fpOk (Nat.le_refl _) nC)
    · have ti := T.item (X.blk s3 H3 scope ce fp) rfl rfl rfl hc i [] s5 _ H5 (fun _ _ => False) I5 (stat I5 n5) st5 go
      refine thnF ti fun r s6 ⟨u, hr, h6⟩ => ?_
      subst hr
      refine thnF h6 fun _ s7 ⟨x, H7, I7, r7, y7, st7, n7⟩ => ?_
      have I7' := I7.pinned (stat I7 n7) (T.obj _ _ st7)
      refine thnF (pg.run _ s7 _ H7 x u _ I7' r7 (step x H7 y7)) fun _ s8 ⟨σ8, H8, I8, hw8, q8⟩ => ?_
      refine thnF (pt.run _ s8 σ8 H8 _ I8 q8) fun b s9 ⟨H9, I9, q9⟩ => ?_
      -- the turn's end, from any slots that know what the block knew at its start
      have fin : ∀ {σ9 : St} {s' : Shared} {H' : Hp}, Inv (X.blk s3 H3 scope ce fp) ([] ++ pinsAt fp s7.heap) σ9 H' s' → (wipe σ (own.map (·.2))).length = σ9.length → (∀ (j : Nat) v, (wipe σ (own.map (·.2)))[j]? = some (some v) → σ9[j]? = some (some v)) → Nx H' →
          ∃ m, m < n ∧ ∃ i H', Inv (X.blk s3 H3 scope ce fp) [] (wipe σ (own.map (·.2))) H' s' ∧ tn i s'.heap ∧ (∀ b ∈ fp, H' b = none) ∧ W i m H' := fun {σ9 s' H'} I' hl hk nx => by
        obtain ⟨m', hm, w'⟩ := hNx H' nx
        have pin' : ∀ b ∈ fp, ∀ o, s7.heap.get? b = some o → s'.heap.get? b = some o ∧ H' b = none := fun b hb o e =>
          let z := I'.pin (b, o) (List.mem_append_right _ (List.mem_append_right _ (mem_pinsAt hb e)))
          ⟨z.1, z.2.1⟩
        refine ⟨m', hm, i + 1, H', (I'.unpinned (pins := [])).weak hl hk, T.keep _ _ _ st7 fun b hb o e => (pin' b hb o e).1, fun b hb => ?_, w'⟩
        obtain ⟨o, e, _⟩ := T.obj _ _ st7 b hb
        exact (pin' b hb o e).2
      have hl8 : (wipe σ (own.map (·.2))).length = σ8.length := by rw [← hw8, wipe_length]
      have hk8 : ∀ (j : Nat) v, (wipe σ (own.map (·.2)))[j]? = some (some v) → σ8[j]? = some (some v) := fun j v e => by
        rw [← hw8] at e
        exact (wipe_some e).1
      have hk9 : ∀ (j : Nat) v, (wipe σ (own.map (·.2)))[j]? = some (some v) → (wipe σ8 vs1)[j]? = some (some v) := fun j v e => by
        rw [← hw8] at e
        obtain ⟨e1, e2⟩ := wipe_some e
        rw [wipe_out fun z => e2 (hv j z)]
        exact e1
      cases b with
      | false =>
        simp only [Bool.false_eq_true, if_false] at q9 ⊢
        exact fin I9 hl8 hk8 q9
      | true =>
        simp only [if_true] at q9 ⊢
        refine thnF (pi1.run _ s9 σ8 H9 _ I9 q9) fun xv s10 hx => thnF hx fun itv s11 h11 => ?_
        obtain ⟨it1, fp1, tn1, J1, H11, e1, I11, T1, st11, f11, W1, ⟨m1, w1⟩, turn1⟩ := h11
        subst e1
        -- the inner loop
        have stat1 : ∀ {H' : Hp}, (∀ b ∈ fp1, H' b = none) → ∀ b ∈ fp1, FpOk (X.blk s3 H3 scope ce fp) ([] ++ pinsAt fp s7.heap) H' b := fun hn b hb => ⟨hn b hb, (f11 b hb).2⟩
        have loop1 : codeAny (model X.prog X.w) X.A (.compLoop (.SetComp elt [⟨tg, iter, ifs, 0⟩, ⟨tg1, iter1, ifs1, 0⟩] scope pos) 1 (.ref it1) (.ref D) ce)
            (fun r s' => match r with
              | .ok _ => ∃ m, m < n ∧ ∃ i H', Inv (X.blk s3 H3 scope ce fp) [] (wipe σ (own.map (·.2))) H' s' ∧ tn i s'.heap ∧ (∀ b ∈ fp, H' b = none) ∧ W i m H'
              | .error _ => False) s11 := by
          refine scLoop2_in (fun k s' => ∃ j H', Inv (X.blk s3 H3 scope ce fp) ([] ++ pinsAt fp s7.heap) (wipe σ8 vs1) H' s' ∧ tn1 j s'.heap ∧ (∀ b ∈ fp1, H' b = none) ∧ W1 j k H') ?_ m1 ⟨0, H11, I11.weak (wipe_length _ _) (fun j v e => (wipe_some e).1), st11, fun b hb => (f11 b hb).1, w1⟩
          rintro k s12 ⟨j, H12, I12, st12, n12, w12⟩
          rcases turn1 j k H12 w12 with ⟨stop1, nx1⟩ | ⟨go1, Nx1, hNx1, step1⟩
          · refine thnF (T1.done (X.blk s3 H3 scope ce fp) rfl rfl rfl hc j _ s12 (wipe σ8 vs1) H12 (fun _ _ => False) I12 (stat1 n12) st12 stop1) fun r s13 ⟨hr, I13⟩ => ?_
            subst hr
            exact fin I13 (hl8.trans (wipe_length σ8 vs1).symm) hk9 nx1
          · refine thnF (T1.item (X.blk s3 H3 scope ce fp) rfl rfl rfl hc j _ s12 (wipe σ8 vs1) H12 (fun _ _ => False) I12 (stat1 n12) st12 go1) fun r s13 ⟨u1, hr, h13⟩ => ?_
            subst hr
            refine thnF h13 fun _ s14 ⟨x1, H14, I14, r14, y14, st14, n14⟩ => ?_
            have I14' := I14.pinned (stat1 n14) (T1.obj _ _ st14)
            refine thnF (pg1.run _ s14 (wipe σ8 vs1) H14 x1 u1 _ I14' r14 (step1 x1 H14 y14)) fun _ s15 ⟨σ15, H15, I15, hw15, q15⟩ => ?_
            refine thnF (pt1.run _ s15 σ15 H15 _ I15 q15) fun b1 s16 ⟨H16, I16, q16⟩ => ?_
            have fin1 : ∀ {s' : Shared} {H' : Hp}, Inv (X.blk s3 H3 scope ce fp) (([] ++ pinsAt fp s7.heap) ++ pinsAt fp1 s14.heap) σ15 H' s' → Nx1 H' → ∃ m, m < k ∧ ∃ j H', Inv (X.blk s3 H3 scope ce fp) ([] ++ pinsAt fp s7.heap) (wipe σ8 vs1) H' s' ∧ tn1 j s'.heap ∧ (∀ b ∈ fp1, H' b = none) ∧ W1 j m H' := fun {s' H'} I' nx => by
              obtain ⟨m', hm, w'⟩ := hNx1 H' nx
              have pin' : ∀ b ∈ fp1, ∀ o, s14.heap.get? b = some o → s'.heap.get? b = some o ∧ H' b = none := fun b hb o e =>
                let z := I'.pin (b, o) (List.mem_append_right _ (List.mem_append_right _ (mem_pinsAt hb e)))
                ⟨z.1, z.2.1⟩
              refine ⟨m', hm, j + 1, H', I'.unpinned.weak (by rw [← hw15, wipe_length]) (fun j v e => by rw [← hw15] at e; exact (wipe_some e).1), T1.keep _ _ _ st14 fun b hb o e => (pin' b hb o e).1, fun b hb => ?_, w'⟩
              obtain ⟨o, e, _⟩ := T1.obj _ _ st14 b hb
              exact (pin' b hb o e).2
            cases b1 with
            | false =>
              simp only [Bool.false_eq_true, if_false] at q16 ⊢
              exact fin1 I16 q16
            | true =>
              simp only [if_true] at q16 ⊢
              refine thnF (pe.run _ s16 σ15 H16 _ I16 q16) fun z s17 ⟨yv, H17, I17, r17, cb, S0, n0, ey, hD17, hz17, nx⟩ => ?_
              subst ey
              obtain ⟨tk, rfl⟩ := (show ∃ t, z = Value.int cb t from r17)
              exact addI_ok (X := X.blk s3 H3 scope ce fp) I17 hD17 hz17 fun s18 I18 => fin1 I18 nx
        exact scStart1_ok loop1 (T1.self X.A 0 _ _ _ st11 loop1)
  exact codeAny_compStart_set loop (T.self X.A 0 _ _ _ st4 loop)
theorem pe_sc2 {elt tg iter tg1 iter1 : Expr} {ifs ifs1 : List Expr} {scope : Scope} {own : List (Str × Nat)} {vs1 : List Nat} {pos : Pos} {wi wi1 : TI} {g g1 : TG} {tt tt1 : TT} {te : TE} (hc : X.calm = true) (hN : X.N.Nodup) (hi : PI X tg iter wi) (ok : BlkOk X.N X.env.scope scope own) (hv : ∀ i ∈ vs1, i ∈ own.map (·.2))
    (hg : ∀ (s : Shared) (H : Hp) (C : Addr) (cl : List (Str × Addr)) (fp : List Addr), PG (X.blk s H scope (compEnvC scope cl C X.env) fp) tg g) (ht : ∀ (s : Shared) (H : Hp) (C : Addr) (cl : List (Str × Addr)) (fp : List Addr), PTs (X.blk s H scope (compEnvC scope cl C X.env) fp) ifs tt)
    (hi1 : ∀ (s : Shared) (H : Hp) (C : Addr) (cl : List (Str × Addr)) (fp : List Addr), PI (X.blk s H scope (compEnvC scope cl C X.env) fp) tg1 iter1 wi1)
    (hg1 : ∀ (s : Shared) (H : Hp) (C : Addr) (cl : List (Str × Addr)) (fp : List Addr), PG (X.blk s H scope (compEnvC scope cl C X.env) fp) tg1 g1) (ht1 : ∀ (s : Shared) (H : Hp) (C : Addr) (cl : List (Str × Addr)) (fp : List Addr), PTs (X.blk s H scope (compEnvC scope cl C X.env) fp) ifs1 tt1)
    (he : ∀ (s : Shared) (H : Hp) (C : Addr) (cl : List (Str × Addr)) (fp : List Addr), PE (X.blk s H scope (compEnvC scope cl C X.env) fp) elt te) (hs : ∀ x, foldedSetIterable iter X.env x = pure x := by intro _; rfl) (hs1 : ∀ env x, foldedSetIterable iter1 env x = pure x := by intro _ _; rfl) :
    PE X (.SetComp elt [⟨tg, iter, ifs, 0⟩, ⟨tg1, iter1, ifs1, 0⟩] scope pos) (tSc2 X.w wi g tt wi1 g1 tt1 te (own.map (·.2)) vs1) := by
  refine ⟨fun pins s σ H Q I h => ?_⟩
  rw [eval_SetComp]
  refine sc2_core hc hN I hi ok hv hg ht he hs hi1 hg1 ht1 hs1 h fun D C s' m H' I' q hn f => ⟨m, hn, fun h'' sb => ?_⟩
  obtain ⟨f0, f1, f2, f3, f4, f5⟩ := f
  exact ⟨.ref D, H', I'.turned (t' := s'.toks) (fun b o hb e => (sb.2 b hb).trans e) f0 f1 f3 f4 f5, rfl, q⟩
end
end Dl

namespace Dl
open PySem PySem.Spec L2
open PyProof.Rows hiding St

/-! ### rising lists without twins -/
def insU (n : Int) : List Int → List Int
  | [] => [n]
  | m :: r => if n < m then n :: m :: r else if n = m then m :: r else m :: insU n r
def usort : List Int → List Int
  | [] => []
  | n :: r => insU n (usort r)
theorem insU_mem (n k : Int) : ∀ l : List Int, k ∈ insU n l ↔ k = n ∨ k ∈ l
  | [] => by simp [insU]
  | m :: r => by
    unfold insU
    split
    · simp
    · split
      · rename_i h
        subst h
        simp
      · rw [List.mem_cons, insU_mem n k r, List.mem_cons]
        constructor
        · rintro (h | h | h)
          · exact .inr (.inl h)
          · exact .inl h
          · exact .inr (.inr h)
        · rintro (h | h | h)
          · exact .inr (.inl h)
          · exact .inl h
          · exact .inr (.inr h)
theorem insU_sorted (n : Int) : ∀ l : List Int, l.Pairwise (· < ·) → (insU n l).Pairwise (· < ·)
  | [], _ => by simp [insU]
  | m :: r, h => by
    have h1 := List.pairwise_cons.mp h
    unfold insU
    split
    · rename_i hl
      refine List.pairwise_cons.mpr ⟨fun a ha => ?_, h⟩
      rcases List.mem_cons.mp ha with rfl | ha
      · exact hl
      · exact Int.lt_trans hl (h1.1 a ha)
    · split
      · exact h
      · rename_i h2 h3
        refine List.pairwise_cons.mpr ⟨fun a ha => ?_, insU_sorted n r h1.2⟩
        rcases (insU_mem n a r).mp ha with rfl | ha
        · omega
        · exact h1.1 a ha
theorem usort_mem (k : Int) : ∀ l : List Int, k ∈ usort l ↔ k ∈ l
  | [] => Iff.rfl
  | n :: r => by
    unfold usort
    rw [insU_mem, usort_mem k r, List.mem_cons]
theorem usort_sorted : ∀ l : List Int, (usort l).Pairwise (· < ·)
  | [] => .nil
  | n :: r => insU_sorted n _ (usort_sorted r)
theorem insU_len (n : Int) : ∀ l : List Int, (insU n l).length ≤ l.length + 1
  | [] => Nat.le_refl _
  | m :: r => by
    unfold insU
    split
    · exact Nat.le_refl _
    · split
      · exact Nat.le_succ _
      · have := insU_len n r
        rw [List.length_cons, List.length_cons]
        omega
theorem usort_len : ∀ l : List Int, (usort l).length ≤ l.length
  | [] => Nat.le_refl _
  | n :: r => by
    have h1 := insU_len n (usort r)
    have h2 := usort_len r
    show (insU n (usort r)).length ≤ r.length + 1
    omega
theorem rising_unique : ∀ {a b : List Int}, a.Pairwise (· < ·) → b.Pairwise (· < ·) → (∀ k, k ∈ a ↔ k ∈ b) → a = b
  | [], [], _, _, _ => rfl
  | [], y :: b, _, _, h => absurd ((h y).mpr List.mem_cons_self) (by simp)
  | x :: a, [], _, _, h => absurd ((h x).mp List.mem_cons_self) (by simp)
  | x :: a, y :: b, ha, hb, h => by
    have h1 := List.pairwise_cons.mp ha
    have h2 := List.pairwise_cons.mp hb
    have hxy : x = y := by
      rcases List.mem_cons.mp ((h x).mp List.mem_cons_self) with e | e
      · exact e
      · rcases List.mem_cons.mp ((h y).mpr List.mem_cons_self) with e2 | e2
        · exact e2.symm
        · have := h2.1 x e
          have := h1.1 y e2
          omega
    subst hxy
    congr 1
    refine rising_unique h1.2 h2.2 fun k => ⟨fun hk => ?_, fun hk => ?_⟩
    · rcases List.mem_cons.mp ((h k).mp (List.mem_cons_of_mem _ hk)) with e | e
      · have := h1.1 k hk
        omega
      · exact e
    · rcases List.mem_cons.mp ((h k).mpr (List.mem_cons_of_mem _ hk)) with e | e
      · have := h2.1 k hk
        omega
      · exact e
theorem usort_eq {ns ms : List Int} (h1 : ms.Pairwise (· < ·)) (h2 : ∀ k, k ∈ ms ↔ k ∈ ns) : ms = usort ns := rising_unique h1 (usort_sorted ns) fun k => (h2 k).trans (usort_mem k ns).symm
theorem usort_nodup (l : List Int) : (usort l).Nodup := (usort_sorted l).imp fun h => Int.ne_of_lt h
theorem usort_old {l : List Int} {v : Int} (h : v ∈ l) : usort (l ++ [v]) = usort l := (usort_eq (usort_sorted (l ++ [v])) fun k => by
  rw [usort_mem, List.mem_append, List.mem_singleton]
  exact ⟨fun h1 => h1.elim (fun q => q) fun q => q ▸ h, .inl⟩)
theorem usort_more {l : List Int} {v : Int} (h : v ∉ l) : (usort (l ++ [v])).length = (usort l).length + 1 := by
  have p : (usort (l ++ [v])).Perm (v :: usort l) := (List.perm_ext_iff_of_nodup (usort_nodup _) (List.nodup_cons.mpr ⟨fun q => h ((usort_mem v l).mp q), usort_nodup l⟩)).mpr fun k => by
    rw [usort_mem, List.mem_append, List.mem_singleton, List.mem_cons, usort_mem, or_comm]
  rw [p.length_eq, List.length_cons]

/-! ### sorted({..}) and sorted(set(..)) of ints -/
section
variable {X : Cy} {tg iter elt t : Expr} {scope : Scope} {z : Z} {pos pos' p : Pos} {own : List (Str × Nat)} {g : TG} {Q : Sl → Z → Prop}
/-- what a set comprehension of ints asks -/
def ScD (X : Cy) (elt t : Expr) (scope : Scope) (vs : List Nat) (g : TG) (Q : List Int → Z → Prop) : List Sl → (Z → Prop) → Z → Prop := fun ys G z1 => ys.length < 3000 ∧ G ⟨wipeZ z1.sl vs, z1.ob⟩ ∧ ∃ fs : List (Option Int), ys.length = fs.length ∧
  (∀ (i : Nat) (y : Sl) (o : Option Int), ys[i]? = some y → fs[i]? = some o → GD X.K vs g y ⟨wipeZ z1.sl vs, z1.ob⟩ fun z2 => ∀ s H C cl fp, WT (Blk X scope s H C cl fp) t z2 fun b z3 => b = o.isSome ∧ z3.ob = z1.ob ∧ ∀ d, o = some d → ∀ s H C cl fp, WE (Blk X scope s H C cl fp) elt z3 fun x z4 => x = .sh (.int d) ∧ z4.ob = z1.ob) ∧
  (usort (fs.filterMap _root_.id)).length < 64 ∧ Q (usort (fs.filterMap _root_.id)) z1
theorem sc_ok {P : List Int → Z → Prop} {c : CtX X} {w : Wd} {σ : St} {k : VK} (hc : X.calm = true) (bb : B X.K c w σ z) (h : WI X tg iter z (ScD X elt t scope (own.map (·.2)) g P))
    (hk : ∀ ms z1 w1, B X.K c w1 σ z1 → w.Le w1 → P ms z1 → ∀ q, w1.H q = none → k (.ref q) (upd w1.H q (.lst (ms.map V.int)))) :
    tScI X.w (tI X tg iter) g (fun σ H Q => ∀ s H0 C cl fp, tTs (Blk X scope s H0 C cl fp) [t] σ H Q) (fun σ H Q => ∀ s H0 C cl fp, tE (Blk X scope s H0 C cl fp) elt σ H Q) (own.map (·.2)) σ w.H (fun x H1 => rSortedSet X.w [x] H1 k) := by
  refine h c w σ _ bb fun J ys G w1 z1 b1 l1 dw ⟨hyl, hG, fs, hl, hs, h64, hP⟩ D hD => ?_
  have as1 : Aside c w1 D := b1.asideNew hD
  refine ⟨fun i m H' => m = ys.length - i ∧ i ≤ ys.length ∧ ∃ w' S n, B X.K c w' σ z1 ∧ w1.Le w' ∧ w'.H = H' ∧ Aside c w' D ∧ w'.H D = some (SetO X.w D S n) ∧ n = (usort ((fs.take i).filterMap _root_.id)).length ∧ ∀ k, S k = true ↔ k ∈ (fs.take i).filterMap _root_.id,
    ⟨ys.length, by simp, Nat.zero_le _, ⟨w1.rho, w1.S, upd w1.H D (SetO X.w D (fun _ => false) 0)⟩, fun _ => false, 0, b1.aside as1, le_aside, rfl, ⟨as1.nr, as1.nS, as1.nc⟩, upd_same, rfl, fun k => by simp⟩, ?_⟩
  rintro i m H2 ⟨rfl, hi, w2, S, n, b2, l2, rfl, as2, hD2, hn, hS⟩
  have bw := b2.wipe (own.map (·.2))
  have hni : n ≤ i := by
    have q1 := usort_len ((fs.take i).filterMap _root_.id)
    have q2 := List.length_filterMap_le _root_.id (fs.take i)
    have q3 := List.length_take_le i fs
    omega
  by_cases hlt : i < ys.length
  · refine .inr ⟨dw.goes i c w2 _ _ hlt bw l2 hG, fun H' => ∃ w' S n, B X.K c w' σ z1 ∧ w1.Le w' ∧ w'.H = H' ∧ Aside c w' D ∧ w'.H D = some (SetO X.w D S n) ∧ n = (usort ((fs.take (i + 1)).filterMap _root_.id)).length ∧ ∀ k, S k = true ↔ k ∈ (fs.take (i + 1)).filterMap _root_.id,
      fun H' q => ⟨ys.length - (i + 1), by omega, rfl, hlt, q⟩, fun x H' y => ?_⟩
    have hy : ys[i]? = some ys[i] := List.getElem?_eq_getElem hlt
    have hif : i < fs.length := by omega
    have hf : fs[i]? = some fs[i] := List.getElem?_eq_getElem hif
    have bs := bw.self
    obtain ⟨w3, rfl, b3, l3, r3⟩ := dw.yields i w2.ct w2 _ _ x H' ys[i] hy bs l2 hG y
    refine hs i ys[i] fs[i] hy hf w2.ct w3 _ x _ b3 r3 fun w4 σ4 z4 b4 l4 hwp hw => ⟨hwp.trans (wipe_wipe σ _), fun s0 H0 C cl fp => ?_⟩
    refine hw s0 H0 C cl fp (.of _ (fun _ _ _ h => h) w2.ct) w4 σ4 _ b4 fun d w5 z5 b5 l5 ⟨hb, e5, he⟩ => ?_
    have l25 : w2.Le w5 := (l3.trans l4).trans l5
    have back : ∀ {w6 : Wd} {σ6 : St} {z6 : Z}, B X.K w2.ct w6 σ6 z6 → w2.Le w6 → z6.ob = z1.ob → B X.K c w6 σ z1 := fun {w6 σ6 z6} b6 l6 e6 => by
      have := b2.slots (b2.comp b6) l6
      rw [e6] at this
      exact this
    cases d with
    | true =>
      show ∀ s H0 C cl fp, tE (Blk X scope s H0 C cl fp) elt σ4 w5.H _
      intro s1 H1 C1 cl1 fp1
      obtain ⟨v, hv⟩ := Option.isSome_iff_exists.mp hb.symm
      refine he v hv s1 H1 C1 cl1 fp1 (.of _ (fun _ _ _ h => h) w2.ct) w5 σ4 _ b5 fun u x6 w6 z6 b6 l6 r6 ⟨e6, e7⟩ => ?_
      subst e6
      have l26 := l25.trans l6
      obtain ⟨as6, hD6⟩ := as2.on b2 hD2 b6
      refine ⟨v, S, n, Dp_int r6, hD6, by show n + 1 < 4096; omega, ⟨w6.rho, w6.S, upd w6.H D (SetO X.w D (fun j => S j || decide (j = v)) (if S v = true then n else n + 1))⟩, _, _, (back b6 l26 e7).aside as6, (l2.trans l26).trans le_aside, rfl, ⟨as6.nr, as6.nS, as6.nc⟩, upd_same, ?_, fun k => ?_⟩
      · have ef : (fs.take (i + 1)).filterMap _root_.id = (fs.take i).filterMap _root_.id ++ [v] := by
          rw [List.take_add_one, hf, hv, List.filterMap_append]
          rfl
        rw [ef]
        split
        · rename_i hSv
          rw [usort_old ((hS v).mp hSv)]
          exact hn
        · rename_i hSv
          rw [usort_more fun q => hSv ((hS v).mpr q), hn]
      · rw [List.take_add_one, hf, hv, List.filterMap_append, Bool.or_eq_true, hS k, decide_eq_true_eq, List.mem_append]
        simp
    | false =>
      show ∃ w' S n, _
      obtain ⟨as5, hD5⟩ := as2.on b2 hD2 b5
      have hn0 : fs[i] = none := by
        cases e : fs[i] with
        | none => rfl
        | some d =>
          rw [e] at hb
          cases hb
      have ef : (fs.take (i + 1)).filterMap _root_.id = (fs.take i).filterMap _root_.id := by
        rw [List.take_add_one, hf, hn0, List.filterMap_append]
        simp
      exact ⟨w5, S, n, back b5 l25 e5, l2.trans l25, rfl, as5, hD5, by rw [ef]; exact hn, fun k => by rw [ef]; exact hS k⟩
  · have e : i = ys.length := by omega
    subst e
    refine .inl ⟨dw.stops c w2 _ _ bw l2 hG, D, S, n, rfl, hD2, by
      rw [hn, hl, List.take_of_length_le (Nat.le_refl _)]
      exact h64, fun ms q h1 h2 _ hq => ?_⟩
    have e2 : ms = usort (fs.filterMap _root_.id) := usort_eq h1 fun k => by
      rw [h2 k, hS k, hl, List.take_of_length_le (Nat.le_refl _)]
    rw [e2]
    exact hk _ z1 w2 b2 (l1.trans l2) hP q hq
theorem newInts {K : PySem.W.Frag} {c : Ct} {w : Wd} {σ : St} {k : VK} {ms : List Int} (b : B K c w σ z) (hk : Cont K c w σ Q k) (h : Q (.sh (.list (ms.map .int))) z) : ∀ q, w.H q = none → k (.ref q) (upd w.H q (.lst (ms.map V.int))) := new_lstF b (DqAll_ints ms) hk h
theorem newIntsO {K : PySem.W.Frag} {c : Ct} {w : Wd} {σ : St} {k : VK} {ms : List Int} (b : B K c w σ z) (hk : Cont K c w σ Q k) (h : Q (.ob z.ob.length) ⟨z.sl, z.ob ++ [.lst ((ms.map PyData.int).map .sh)]⟩) : ∀ q, w.H q = none → k (.ref q) (upd w.H q (.lst (ms.map V.int))) := new_lst b (dp_allSh (DqAll_ints ms)) hk h
theorem we_sortSc {P : List Int → Z → Prop} (hb : Bi X "sorted" "sorted") (hN : X.N.Nodup) (ok : BlkOk X.N X.env.scope scope own) (hg : ∀ s H C cl fp, PG (Blk X scope s H C cl fp) tg g) (hc : X.calm = true)
    (hP : ∀ ms z1, P ms z1 → Q (.sh (.list (ms.map .int))) z1 ∨ Q (.ob z1.ob.length) ⟨z1.sl, z1.ob ++ [.lst ((ms.map PyData.int).map .sh)]⟩)
    (h : WI X tg iter z (ScD X elt t scope (own.map (·.2)) g P)) (hs : ∀ x, foldedSetIterable iter X.env x = pure x := by intro _; rfl)
    (he : starEach [.SetComp elt [⟨tg, iter, [t], 0⟩] scope pos'] X.env = (false, eval (.SetComp elt [⟨tg, iter, [t], 0⟩] scope pos') X.env) :: starEach [] X.env := by rfl) (hpl : (backTo pos (starEach [] X.env)).any (·.1) = false := by rfl) :
    WE X (.Call (.Name "sorted" p) [.SetComp elt [⟨tg, iter, [t], 0⟩] scope pos'] [] pos) z Q := by
  intro c w σ k bb hk
  have pt : ∀ s H C cl fp, PTs (Blk X scope s H C cl fp) [t] (fun σ H Q => ∀ s H0 C cl fp, tTs (Blk X scope s H0 C cl fp) [t] σ H Q) := fun s H C cl fp => ⟨fun pins s1 σ H1 Q I h => ptsB.run pins s1 σ H1 Q I (h s H C cl fp)⟩
  have pe : ∀ s H C cl fp, PE (Blk X scope s H C cl fp) elt (fun σ H Q => ∀ s H0 C cl fp, tE (Blk X scope s H0 C cl fp) elt σ H Q) := fun s H C cl fp => ⟨fun pins s1 σ H1 Q I h => h s H C cl fp pins s1 I⟩
  refine tE_of (pe_callB (cr_sortedSet hc) hb.g.g hb.m hb.v (pa_cons (pe_scI hc hN piB ok hg pt pe hs) pa_nil he) hb.g.n hb.g.d he hpl) ?_
  exact sc_ok hc bb h fun ms z1 w1 b1 l1 hp => by
    rcases hP ms z1 hp with q | q
    · exact newInts b1 (hk.le l1) q
    · exact newIntsO b1 (hk.le l1) q
/-- set(xs), xs a list of ints -/
theorem cr_setL (hc : X.calm = true) : CallR X (.type "set") (fun xs H Q => ∃ (a : Addr) (ns : List Int), xs = [.ref a] ∧ SqL X.K H a (ns.map V.int) ∧ ns.length < 4000 ∧ ∀ p n, H p = none → n ≤ ns.length → Q (.ref p) (upd H p (SetO X.w p (fun j => decide (j ∈ ns)) n))) := by
  intro pins s σ H xs us Q I r h
  obtain ⟨a, ns, rfl, hs, hl, q⟩ := h
  obtain ⟨u, rfl, ru⟩ := vals1 r
  cases ru
  obtain ⟨its, rv, hp, _⟩ := I.list hs
  have hi : IntsAre its.toArray.toList ns := intsAre_of rv
  refine call_set_listI ns (I.ok.hd hc) hp.isList hi (by show ns.length + 1 < 4096; omega) fun h' tk c R hc' keep => ?_
  refine ⟨.ref _, upd H s.heap.objs.size (SetO X.w s.heap.objs.size (fun j => decide (j ∈ ns)) c), I.laid (t' := tk) (fun b u e => keep b u e) (Nat.le_refl _) (setO_new R), rfl, q _ _ (I.hok.fresh (Nat.le_refl _)) hc'⟩
theorem we_sortSet {e : Expr} {p2 pos2 : Pos} (hb : Bi X "sorted" "sorted") (ht : Bt X "set" "set") (hc : X.calm = true) (h : WE X e z fun x z1 => ∃ ns : List Int, x = .sh (.list (ns.map .int)) ∧ ns.length < 64 ∧ Q (.sh (.list ((usort ns).map .int))) z1)
    (he : starEach [.Call (.Name "set" p2) [e] [] pos2] X.env = (false, eval (.Call (.Name "set" p2) [e] [] pos2) X.env) :: starEach [] X.env := by rfl) (he2 : starEach [e] X.env = (false, eval e X.env) :: starEach [] X.env := by rfl) (hpl : (backTo pos (starEach [] X.env)).any (·.1) = false := by rfl) (hpl2 : (backTo pos2 (starEach [] X.env)).any (·.1) = false := by rfl) :
    WE X (.Call (.Name "sorted" p) [.Call (.Name "set" p2) [e] [] pos2] [] pos) z Q := fun c w σ k bb hk =>
  tE_of (pe_callB (cr_sortedSet hc) hb.g.g hb.m hb.v (pa_cons (pe_callTy (cr_setL hc) ht.g.g ht.m ht.v (pa_cons peB pa_nil he2) ht.g.n ht.g.d he2 hpl2) pa_nil he) hb.g.n hb.g.d he hpl)
    (h c w σ _ bb fun v x w1 z1 b1 l1 r1 ⟨ns, e1, hl, hq⟩ => by
      subst e1
      obtain ⟨a, xs, rfl, hr, s1⟩ := Dp_lstI r1
      have ex := ints_v s1
      subst ex
      refine ⟨a, ns, rfl, .inl (Same.rd b1.same hr), by omega, fun D n hD hn => ?_⟩
      have as := b1.asideNew hD
      have b2 := b1.aside (o := SetO X.w D (fun j => decide (j ∈ ns)) n) as
      refine ⟨D, _, n, rfl, upd_same, by omega, fun ms q h1 h2 _ hq2 => ?_⟩
      have e2 : ms = usort ns := usort_eq h1 fun k => by rw [h2 k, decide_eq_true_eq]
      rw [e2]
      exact newInts b2 (hk.le (l1.trans le_aside)) hq q hq2)
end
end Dl

namespace Dl
open PySem PySem.Spec L2
open PyProof.Rows hiding St

/-! ### sorted({..}): a list that stays, a list of the store -/
def SortF (Q : Sl → Z → Prop) : List Int → Z → Prop := fun ms z1 => Q (.sh (.list (ms.map .int))) z1
def SortO (Q : Sl → Z → Prop) : List Int → Z → Prop := fun ms z1 => Q (.ob z1.ob.length) ⟨z1.sl, z1.ob ++ [.lst ((ms.map PyData.int).map .sh)]⟩
section
variable {X : Cy} {tg iter elt t : Expr} {scope : Scope} {z : Z} {pos pos' p : Pos} {own : List (Str × Nat)} {g : TG} {Q : Sl → Z → Prop}
theorem we_sortScO (hb : Bi X "sorted" "sorted") (hN : X.N.Nodup) (ok : BlkOk X.N X.env.scope scope own) (hg : ∀ s H C cl fp, PG (Blk X scope s H C cl fp) tg g) (hc : X.calm = true) (h : WI X tg iter z (ScD X elt t scope (own.map (·.2)) g (SortO Q))) (hs : ∀ x, foldedSetIterable iter X.env x = pure x := by intro _; rfl)
    (he : starEach [.SetComp elt [⟨tg, iter, [t], 0⟩] scope pos'] X.env = (false, eval (.SetComp elt [⟨tg, iter, [t], 0⟩] scope pos') X.env) :: starEach [] X.env := by rfl) (hpl : (backTo pos (starEach [] X.env)).any (·.1) = false := by rfl) :
    WE X (.Call (.Name "sorted" p) [.SetComp elt [⟨tg, iter, [t], 0⟩] scope pos'] [] pos) z Q := we_sortSc hb hN ok hg hc (fun _ _ h => .inr h) h hs he hpl
theorem we_sortScF (hb : Bi X "sorted" "sorted") (hN : X.N.Nodup) (ok : BlkOk X.N X.env.scope scope own) (hg : ∀ s H C cl fp, PG (Blk X scope s H C cl fp) tg g) (hc : X.calm = true) (h : WI X tg iter z (ScD X elt t scope (own.map (·.2)) g (SortF Q))) (hs : ∀ x, foldedSetIterable iter X.env x = pure x := by intro _; rfl)
    (he : starEach [.SetComp elt [⟨tg, iter, [t], 0⟩] scope pos'] X.env = (false, eval (.SetComp elt [⟨tg, iter, [t], 0⟩] scope pos') X.env) :: starEach [] X.env := by rfl) (hpl : (backTo pos (starEach [] X.env)).any (·.1) = false := by rfl) :
    WE X (.Call (.Name "sorted" p) [.SetComp elt [⟨tg, iter, [t], 0⟩] scope pos'] [] pos) z Q := we_sortSc hb hN ok hg hc (fun _ _ h => .inl h) h hs he hpl
end
/-! ### what is only looked at: the store's lists lent as data -/
def viewSl (om : List OO) : Sl → Sl
  | .sh d => .sh d
  | .no => .no
  | .tp ds => .tp ds
  | .ex C dat => .ex C dat
  | .ob i => match om[i]? with
    | some (.lst xs) => (match allSh xs with
      | some ds => .sh (.list ds)
      | none => .no)
    | some (.dk ks xs) => (match allSh xs with
      | some ds => .sh (.dict ((ks.zip ds).map fun q => (kD q.1, q.2)))
      | none => .no)
    | _ => .no
theorem zip_fst {α β γ : Type} : ∀ (ks : List α) {vs : List β} {ds : List γ}, vs.length = ds.length → (ks.zip vs).map (·.1) = (ks.zip ds).map (·.1)
  | [], _, _, _ => by simp
  | k :: ks, [], [], _ => rfl
  | k :: ks, v :: vs, d :: ds, h => by
    simp only [List.zip_cons_cons, List.map_cons]
    rw [zip_fst ks (by simpa using h)]
theorem zip_dq {K : PySem.W.Frag} {H : Hp} {α : Type} : ∀ (ks : List α) {vs : List V} {ds : List PyData}, DqAll K H vs ds → DqAll K H ((ks.zip vs).map (·.2)) ((ks.zip ds).map (·.2))
  | [], _, _, _ => by simpa using DqAll.nil
  | k :: ks, _, _, .nil => .nil
  | k :: ks, _, _, .cons h t => by
    simp only [List.zip_cons_cons, List.map_cons]
    exact .cons h (zip_dq ks t)
section
variable {K : PySem.W.Frag} {c : Ct} {w w' : Wd} {σ : St} {z z' : Z}
theorem Sv.view (b : B K c w σ z) {o : Option V} : ∀ {x : Sl}, Sv K w o x → Sv K ⟨[], w.H, w.H⟩ o (viewSl z.ob x)
  | .no, _ => .inl rfl
  | .sh d, h => by
    rcases h with h | ⟨v, e, h⟩
    · exact .inl h
    · exact .inr ⟨v, e, Dp_mono b.same h⟩
  | .tp d, h => by
    rcases h with h | ⟨v, e, a, xs, h1, h2, h3⟩
    · cases h
    · exact .inr ⟨v, e, a, xs, h1, Same.tup b.same h2, DpAll_mono b.same h3⟩
  | .ex _ _, h => by
    rcases h with h | ⟨v, e, a, dx, cx, u, h0, h1, h2, h3⟩
    · cases h
    · exact .inr ⟨v, e, a, dx, cx, u, h0, b.same _ _ h1, b.same _ _ h2, Dp_mono b.same h3⟩
  | .ob i, h => by
    rcases h with h | ⟨v, e, p, hp, rfl⟩
    · cases h
    · show Sv K ⟨[], w.H, w.H⟩ o (match z.ob[i]? with | some (.lst xs) => (match allSh xs with | some ds => .sh (.list ds) | none => .no) | some (.dk ks xs) => (match allSh xs with | some ds => .sh (.dict ((ks.zip ds).map fun q => (kD q.1, q.2))) | none => .no) | _ => .no)
      cases e1 : z.ob[i]? with
      | none => exact .inl rfl
      | some oo =>
        cases oo with
        | gone => exact .inl rfl
        | lst xs =>
          show Sv K ⟨[], w.H, w.H⟩ o (match allSh xs with | some ds => .sh (.list ds) | none => .no)
          cases e2 : allSh xs with
          | none => exact .inl rfl
          | some ds =>
            obtain ⟨_, vs, hH, hv⟩ := b.ob i _ p e1 hp
            exact .inr ⟨.ref p, e, Dq.lst (.inl hH) (DpAll_mono b.same (allSh_dp e2 hv))⟩
        | dk ks xs =>
          show Sv K ⟨[], w.H, w.H⟩ o (match allSh xs with | some ds => .sh (.dict ((ks.zip ds).map fun q => (kD q.1, q.2))) | none => .no)
          cases e2 : allSh xs with
          | none => exact .inl rfl
          | some ds =>
            obtain ⟨_, vs, hH, hv⟩ := b.ob i _ p e1 hp
            have hd := DpAll_mono b.same (allSh_dp e2 hv)
            exact .inr ⟨.ref p, e, Dq.dic hH (zip_fst ks (DpAll_len hd)) (zip_dq ks hd)⟩
        | dt hf ks xs => exact .inl rfl
        | ins C ns xs => exact .inl rfl
theorem paired_map {α β γ : Type} {F : α → β → Prop} {G : α → γ → Prop} {f : β → γ} (h : ∀ a b, F a b → G a (f b)) : ∀ {l₁ : List α} {l₂ : List β}, Paired F l₁ l₂ → Paired G l₁ (l₂.map f)
  | _, _, .nil => .nil
  | _, _, .cons q t => .cons (h _ _ q) (paired_map h t)
theorem B.lend (b : B K c w σ z) : B K ⟨w.H, w.H, []⟩ ⟨[], w.H, w.H⟩ σ ⟨z.sl.map (viewSl z.ob), []⟩ := ⟨Same.refl _, rfl, by simp, by simp, paired_map (fun _ _ q => q.view b) b.sl, fun i o p h => by simp at h, fun i p h => by simp at h, fun _ _ h _ => h, fun a o h => .inl (by
  show w.H a ≠ none
  have h : w.H a = some o := h
  rw [h]
  simp), Same.refl _, fun i p _ h => by simp at h⟩
theorem B.unlend (b : B K c w σ z) (b' : B K ⟨w.H, w.H, []⟩ w' σ z') : B K c ⟨w.rho, w.S, w'.H⟩ σ z ∧ w.Le ⟨w.rho, w.S, w'.H⟩ := by
  have l : w.Le ⟨w.rho, w.S, w'.H⟩ := ⟨Same.refl _, fun _ _ h => h⟩
  have hfr : ∀ a o, w.H a = some o → w'.H a = some o := fun a o h => b'.fr a o h (by simp)
  have keep : ∀ p ∈ w.rho, w'.H p = w.H p := fun p hp => by
    cases e : w.H p with
    | none => exact absurd e (b.tr p hp)
    | some o => exact hfr p o e
  refine ⟨⟨fun a o h => hfr a o (b.same a o h), b.len, b.nd, fun p hp => ?_, b.sl.mono fun _ _ q => q.mono l, fun i o p h1 h2 => (b.ob i o p h1 h2).mono l (fun e => e) (keep p (List.mem_of_getElem? h2)), b.pre, fun a o h hn => hfr a o (b.fr a o h hn), b.nw, b.st, b.nr⟩, l⟩
  show w'.H p ≠ none
  rw [keep p hp]
  exact b.tr p hp
end
theorem wt_lend {X : Cy} {e : Expr} {z : Z} {P : Bool → Z → Prop} (h : WT X e ⟨z.sl.map (viewSl z.ob), []⟩ fun b _ => P b z) (hn : ∀ C d z, ¬ X.RX C d z := by assumption) : WT X e z P := fun c w σ k b hk =>
  h (.of X hn ⟨w.H, w.H, []⟩) ⟨[], w.H, w.H⟩ σ k b.lend fun d w' z' b' _ q => by
    obtain ⟨b2, l2⟩ := b.unlend b'
    exact hk d ⟨w.rho, w.S, w'.H⟩ z b2 l2 q
def flatD : PyData → Bool
  | .list _ => false
  | .tuple _ => false
  | .dict _ => false
  | _ => true
theorem flat_dq {K : PySem.W.Frag} {H H' : Hp} {v : V} {d : PyData} (f : flatD d = true) (h : Dq K H v d) : Dq K H' v d := by
  cases h with
  | non => exact .non
  | bl b => exact .bl b
  | int i => exact .int i
  | str x => exact .str x
  | lst _ _ => cases f
  | tup _ _ => cases f
  | dic _ _ _ => cases f
theorem we_lend {X : Cy} {e : Expr} {z : Z} {Q : Sl → Z → Prop} (h : WE X e ⟨z.sl.map (viewSl z.ob), []⟩ fun x _ => ∃ d, x = .sh d ∧ flatD d = true ∧ Q (.sh d) z) (hn : ∀ C d z, ¬ X.RX C d z := by assumption) : WE X e z Q := fun c w σ k b hk =>
  h (.of X hn ⟨w.H, w.H, []⟩) ⟨[], w.H, w.H⟩ σ k b.lend fun v x w' z' b' _ r ⟨d, e1, hf, q⟩ => by
    subst e1
    obtain ⟨b2, l2⟩ := b.unlend b'
    exact hk v (.sh d) ⟨w.rho, w.S, w'.H⟩ z b2 l2 (vsh (flat_dq hf r)) q
end Dl

namespace Dl
open PySem PySem.Spec L2
open PyProof.Rows hiding St

/-! ### any def that is handed data alone -/
section
variable {X : Cy} {z : Z} {Q : Sl → Z → Prop}
theorem call_gen {R : Rl} {c : Ct} {w : Wd} {σ : St} {kk : VK} {vs : List V} {xs : List Sl} {ds : List PyData} {Q' : Sl → List OO → Prop} {E : XK} (n : Nat) (b : B X.K c w σ z) (hv : Paired (Vl X.K w) vs xs) (hn : xs.length = n) (hx : allSh xs = some ds) (hR : R xs [] Q')
    (hQ : ∀ y om, Q' y om → Q (mpS z.ob.length y) ⟨z.sl, z.ob ++ om.map (mpO z.ob.length)⟩) (hk : Cont X.K c w σ Q kk) : spD X.K n R (vs ++ []) w.H kk E := by
  rw [List.append_nil]
  refine ⟨by rw [hv.length]; exact hn, ⟨[], w.S, w.H⟩, xs, [], Q', rfl, b.ent0, ?_, hR, fun y om' v w' hq b' rv => ?_⟩
  · rw [allSh_eq hx]
    exact dp_allSh (w := ⟨[], w.S, w.H⟩) (allSh_dp (w := w) hx hv)
  · obtain ⟨b2, l⟩ := b.back0 b'
    exact hk v (mpS z.ob.length y) ⟨w.rho ++ w'.rho, w'.S, w'.H⟩ _ b2 l (Vl.mp (z := z) b.len rv rfl) (hQ y om' hq)
end
section
variable {X : Cy} {x : Str} {p pos : Pos} {e : Expr} {es : List Expr} {z : Z} {Q : Sl → Z → Prop} {k kk : Nat} {ps : List Str} {R : Rl}
theorem we_cG (c : Cf X x k ps R) (hr : RoomG kk X.A) (hle : k ≤ kk) (h : WA X (e :: es) z fun xs z1 => ∃ ds Q', allSh xs = some ds ∧ R xs [] Q' ∧ xs.length = ps.length ∧ ∀ y om, Q' y om → Q (mpS z1.ob.length y) ⟨z1.sl, z1.ob ++ om.map (mpO z1.ob.length)⟩)
    (he : starEach (e :: es) X.env = (false, eval e X.env) :: starEach es X.env) (hpl : (backTo pos (starEach es X.env)).any (·.1) = false) : WE X (.Call (.Name x p) (e :: es) [] pos) z Q := by
  obtain ⟨f, fd, G, hm, hk, hb⟩ := c.d.ex
  exact fun ct w σ kk bb hkk => tE_of (pe_callG G (hr.mono hle) c.g.g hm hk hb pass0x paB c.g.d he hpl) (h ct w σ _ bb fun vs xs w1 z1 b1 l1 hv ⟨ds, Q', hx, hR, hn, hQ⟩ => call_gen ps.length b1 hv hn hx hR hQ (hkk.le l1))
end
theorem set_end {α : Type} (l : List α) (a b : α) : (l ++ [a]).set l.length b = l ++ [b] := by simp
theorem get_end {α : Type} (l : List α) (a : α) : (l ++ [a])[l.length]? = some a := by simp
end Dl

namespace Dl
open PySem PySem.Spec L2
open PyProof.Rows hiding St

/-! ### what is written of the heap, without its lists -/
theorem lookup_filter {β : Type} (g : Addr → Bool) (a : Addr) : ∀ l : List (Addr × β), (l.filter fun p => g p.1).lookup a = if g a then l.lookup a else none
  | [] => by simp
  | (b, o) :: l => by
    rw [List.filter_cons, List.lookup_cons]
    by_cases e : (a == b) = true
    · have e' : a = b := by simpa using e
      subst e'
      by_cases hg : g a = true
      · simp [hg]
      · simp only [hg]
        rw [if_neg (by simp), lookup_filter g a l, if_neg hg]
        simp
    · by_cases hg : g b = true
      · simp only [hg, if_true]
        rw [List.lookup_cons]
        simp only [e]
        exact lookup_filter g a l
      · simp only [hg, e]
        exact lookup_filter g a l
section
variable {K : PySem.W.Frag} {a : Addr} {o : Obj}
theorem thin_lookup (h : K.lookup a = some o) (hs : seqL o = false) : (thin K).lookup a = some o := by
  unfold thin
  rw [lookup_filter (thinB K) a K, h, if_pos]
  unfold thinB
  rw [h]
  simp [hs]
theorem thin_sub (h : (thin K).lookup a = some o) : K.lookup a = some o ∧ seqL o = false := by
  unfold thin at h
  rw [lookup_filter (thinB K) a K] at h
  split at h
  · rename_i hg
    refine ⟨h, ?_⟩
    unfold thinB at hg
    rw [h] at hg
    simpa using hg
  · cases h
theorem thin_in {h : Heap} (X : K.In h) : (thin K).In h := fun a o e => X a o (thin_sub e).1
theorem thin_code {cd : Value} {q : Str} (h : PySem.W.codeIn K cd q = true) : PySem.W.codeIn (thin K) cd q = true := by
  unfold PySem.W.codeIn at h ⊢
  cases cd with
  | ref c =>
    cases e : K.lookup c with
    | none =>
      simp only [e] at h
      cases h
    | some o =>
      obtain ⟨oc, od, dt, os⟩ := o
      cases dt with
      | fields vs =>
        have e2 := thin_lookup e (by cases oc <;> rfl)
        simp only [e] at h
        simp only [e2]
        exact h
      | _ =>
        simp only [e] at h
        cases h
  | _ => cases h
theorem thin_fun {x qual : Str} {st : Stmt} {kws : List (Str × V)} {f : Addr} {fd : FuncData} (F : FunD K x qual (defArgs st) (defBody st) (defScope st) [] kws f fd) : Fun (thin K) x qual st f fd := by
  obtain ⟨oc, od, dV, kV, doc, pm, an, cdv, ct, osl, rfl, lk, hcd, hD, hK⟩ := F.ex
  have lk2 := thin_lookup lk (by cases oc <;> rfl)
  refine ⟨⟨oc, od, kV, doc, pm, an, cdv, ct, osl, ?_, lk2, thin_code hcd⟩, ?_⟩
  · rcases hD with ⟨_, rfl⟩ | ⟨e, _⟩
    · rfl
    · exact absurd rfl e
  · unfold PySem.W.keepIn
    simp only [lk2]
theorem thin_sq {H : Hp} {xs : List V} (h : SqL (thin K) H a xs) : Rd H a (.lst xs) := by
  rcases h with h | ⟨o, its, n, hk, hc, hd, hs, _⟩
  · exact h
  · have h2 := (thin_sub hk).2
    obtain ⟨oc, od, dt, os⟩ := o
    cases hc
    cases hs
    exact absurd h2 (by simp [seqL])
theorem only_thin {H : Hp} {xs : List V} (h : SqL K H a xs) (hn : thinB K a = true) : Rd H a (.lst xs) := by
  rcases h with h | ⟨o, its, n, hk, hc, hd, hs, _⟩
  · exact h
  · unfold thinB at hn
    rw [hk] at hn
    obtain ⟨oc, od, dt, os⟩ := o
    cases hc
    cases hs
    exact absurd hn (by simp [seqL])
end
theorem dqAll_ints {K : PySem.W.Frag} {H : Hp} : ∀ ns : List Int, DqAll K H (ns.map V.int) (ns.map PyData.int)
  | [] => .nil
  | n :: ns => .cons (.int n) (dqAll_ints ns)
/-- a law's promise at the script -/
theorem sp_script {K : PySem.W.Frag} {H : Hp} {a : Addr} {ns : List Int} {F : List PyData → PyData → Prop} (h : SqL (thin K) H a (ns.map V.int)) (hF : F [.list (ns.map .int)] (.bool true)) : spD (thin K) 1 (PureR F) [.ref a] H (fun v _ => v = .bl true) fun _ _ _ => False := by
  refine ⟨rfl, ⟨[], H, H⟩, [.sh (.list (ns.map .int))], [], fun y om => y = .sh (.bool true) ∧ om = [], rfl, ?_, .cons ?_ .nil, ⟨_, _, rfl, rfl, hF, rfl, rfl⟩, ?_⟩
  · exact ⟨Same.refl _, rfl, by simp, by simp, .nil, fun i o p h => by simp at h, fun i p h => h, fun _ _ h _ => h, fun a o h => .inl (by
      show H a ≠ none
      have h : H a = some o := h
      rw [h]
      simp), Same.refl _, fun i p _ h => by
      have h : ([] : List Addr)[i]? = some p := h
      simp at h⟩
  · exact Dq.lst (thin_sq h) (dqAll_ints ns)
  · rintro y om' v w' ⟨rfl, rfl⟩ _ r
    have r : Dq (thin K) w'.S v (.bool true) := r
    cases r
    rfl
/-- the law's def, called by the caller: the script is a list that stays -/
theorem law_goG {P : Program} {w : World} {K : PySem.W.Frag} {mg mb : Str → Option Value} {k : Nat} {fa a : Addr} {fd : FuncData} {x : Str} {sp : Sp} {s1 : Shared} {vs : List Value} {ns : List Int} (kin : (thin K).In s1.heap) (gns : s1.heap.Ns mainGlobals mg) (bns : s1.heap.Ns builtinsNs mb)
    (hbb : ∀ x : Str, x ≠ "__name__" → mb x = bootBuiltins x) (nolim : s1.heap.NoLimit) (gens : s1.gens = #[]) (hobj : s1.heap.get? a = some { cls := .type "list", data := .seq vs.toArray }) (hints : IntsAre vs ns) (small : ns.length ≤ sizeLine) (rm : RoomG k callerA)
    (F : ∀ base : Heap, (thin K).In base → base.Ns mainGlobals mg → FnG P w (thin K) mg base CX0 k fa fd [x] sp) (bnd : ∀ (s : Shared) (u : Value), BindsTo s fd ⟨[u], []⟩ [(x, u)])
    (hsp : ∀ H : Hp, SqL (thin K) H a (ns.map V.int) → sp [.ref a] H (fun v _ => v = .bl true) fun _ _ _ => False) :
    codeAny (model P w) callerA (.call (.ref fa) ⟨[.ref a], []⟩) (fun r s' => r = .ok (.ret (.bool true)) ∧ OldK s1.heap s'.heap ∧ s'.os = s1.os ∧ AllBare s'.gens) s1 := by
  have noK : (thin K).lookup a = none := by
    cases e : (thin K).lookup a with
    | none => rfl
    | some o =>
      have e1 := kin a o e
      rw [hobj] at e1
      cases e1
      exact absurd (thin_sub e).2 (by simp [seqL])
  generalize ho : ({ cls := .type "list", data := .seq vs.toArray } : Obj) = ob at hobj
  obtain ⟨H, eH⟩ : ∃ H : Hp, H = fun b => if b = a then some (.frz ob (.lst (ns.map V.int))) else none := ⟨_, rfl⟩
  have hA : H a = some (.frz ob (.lst (ns.map V.int))) := by rw [eH]; exact if_pos rfl
  have hN : ∀ b, b ≠ a → H b = none := fun b hb => by rw [eH]; exact if_neg hb
  have hok : HOk P w H s1.heap := fun b u z => by
    by_cases hb : b = a
    · subst hb
      rw [hA] at z
      cases z
      exact ⟨hobj, by rw [List.length_map]; exact small, vs, _, vals_ints hints, hobj.trans (congrArg some ho.symm)⟩
    · rw [hN b hb] at z
      cases z
  have dictN : ∀ {b : Addr} {o : Obj} {es : Array DictEntry} {ep : Nat}, s1.heap.get? b = some o → o.data = .dict es ep → H b = none := fun {b o es ep} e d => by
    by_cases hb : b = a
    · subst hb
      rw [hobj] at e
      cases e
      rw [← ho] at d
      cases d
    · exact hN b hb
  have nsB : ∀ {b : Addr} {m : Str → Option Value}, s1.heap.Ns b m → (hidT s1.heap H).Ns b m := fun {b m} ⟨o, es, ep, e, d, r⟩ => ⟨o, es, ep, hidT_get e (dictN e d), d, r⟩
  have kinB : (thin K).In (hidT s1.heap H) := fun b o e => hidT_get (kin b o e) (by
    by_cases hb : b = a
    · subst hb
      rw [noK] at e
      cases e
    · exact hN b hb)
  have modB : Mod (thin K) mg (hidT s1.heap H) := ⟨kinB, nsB gns, ⟨mb, nsB bns, hbb⟩, nolim.elim fun mc h => ⟨mc, nsB h.1, h.2⟩⟩
  have env0 : Env0 P w (thin K) mg (hidT s1.heap H) callerA [] s1 H := ⟨rfl, modB, fun b o e => of_hidT e, Nat.le_of_eq (hidT_size _ _), trivial, fun b hb => absurd (show b ∈ ([] : List Addr) from hb) (by simp), hok, .of_eq gens⟩
  refine codeAny_mono ((F _ kinB (nsB gns)).go callerA [] s1 H ⟨[.ref a], []⟩ [.ref a] [.ref a] _ _ rm env0 (bnd s1 (.ref a)) (.cons rfl .nil) (hsp H (.inl (.inr ⟨ob, hA⟩)))) fun r s' h => ?_
  match r, h with
  | .error e, h => exact h.elim
  | .ok .next, h => exact h.elim
  | .ok .brk, h => exact h.elim
  | .ok .cont, h => exact h.elim
  | .ok (.ret u), ⟨v, H', os, bare, un, hok', rv, q⟩ =>
    have q : v = .bl true := q
    subst q
    have rv : u = Value.bool true := rv
    subst rv
    refine ⟨rfl, OldK.of_keep fun b o e => ?_, os, bare⟩
    by_cases hb : b = a
    · subst hb
      have h1 := (hok' b _ (un.frzs b ob _ hA)).1
      rw [hobj] at e
      rw [← e]
      exact h1
    · exact un.keep b o e (hN b hb) (fun z => absurd (show b ∈ ([] : List Addr) from z) (by simp)) (by simp)
theorem walk_ofG {l : PySem.W.OpenLaw} {n k : Nat} {q : Program} {loose : List Str} {XP : (Str → Option Value) → Heap → Prop} {YP : World → Heap → Prop} {d : DefRec} {x : Str} (hn : l.most = some n) (hn2 : n ≤ sizeLine) (hdf : d.params.defaults = []) (rm : RoomG k callerA)
    (F : ∀ (w : World) (mg : Str → Option Value) (fa : Addr) (h : Heap), YP w h → h.Ns mainGlobals mg → mg d.name = some (.ref fa) → ∃ (K : PySem.W.Frag) (fd : FuncData) (sp : Sp), K.In h ∧ (∀ (s : Shared) (u : Value), BindsTo s fd ⟨[u], []⟩ [(x, u)]) ∧
      (∀ (H : Hp) (a : Addr) (ns : List Int), ns.length ≤ n → SqL (thin K) H a (ns.map V.int) → sp [.ref a] H (fun v _ => v = .bl true) fun _ _ _ => False) ∧ ∀ base : Heap, (thin K).In base → base.Ns mainGlobals mg → FnG l.prog w (thin K) mg base CX0 k fa fd [x] sp) :
    PySem.W.WalkO q loose XP YP l.row.toRowW d [] (fun f vs => PySem.call f vs) := by
  refine Att.attach_call hn hdf fun w _ s1 mg mb fa _ _ _ _ a vs ns G Y _ _ _ hmg hobj hints hlen hg => ?_
  obtain ⟨K, fd, sp, KX, bnd, hsp, hF⟩ := F w mg fa _ Y G.T.g hmg
  exact law_goG (thin_in KX) G.T.g G.T.b G.T.builtins G.T.nolimit hg hobj hints (Nat.le_trans hlen hn2) rm hF bnd fun H hS => hsp H a ns hlen hS
end Dl

namespace Dl
open PySem PySem.Spec L2
open PyProof.Rows hiding St

/-! ### repr of data -/
section
variable {X : Cy} {pins : List (Addr × Obj)} {σ : St} {H : Hp} {s : Shared}
mutual
theorem Dq.reads (I : Inv X pins σ H s) : ∀ {v : V} {d : PyData} {u : Value}, Dq X.K H v d → d.hasDict = false → RelV v u → ∃ as, Reads s.heap u d as
  | _, _, u, .non, _, r => by
    have e : u = .none := r
    subst e
    exact ⟨_, .none⟩
  | _, _, u, .bl b, _, r => by
    have e : u = .bool b := r
    subst e
    exact ⟨_, .bool b⟩
  | _, _, u, .int i, _, r => by
    obtain ⟨t, e⟩ : ∃ t, u = .int i t := r
    subst e
    exact ⟨_, .int i t⟩
  | _, _, u, .str x, _, r => by
    obtain ⟨t, e⟩ : ∃ t, u = .str x t := r
    subst e
    exact ⟨_, .str x t⟩
  | _, _, u, .lst (a := a) h hs, hn, r => by
    have e : u = .ref a := r
    subst e
    obtain ⟨its, rv, ⟨o, n, e, hc, _, hd⟩, _⟩ := I.list (.inl h)
    obtain ⟨as, h4⟩ := DqAll.reads I hs (by simpa only [PyData.hasDict] using hn) rv
    exact ⟨_, .list e hc hd h4⟩
  | _, _, u, .tup (a := a) h hs, hn, r => by
    have e : u = .ref a := r
    subst e
    obtain ⟨its, rv, ⟨o, e, hc, n, hd⟩, _⟩ := I.tuple h.sq
    obtain ⟨as, h4⟩ := DqAll.reads I hs (by simpa only [PyData.hasDict] using hn) rv
    exact ⟨_, .tuple e hc hd h4⟩
  | _, _, u, .dic _ _ _, n, _ => by simp only [PyData.hasDict] at n; cases n
theorem DqAll.reads (I : Inv X pins σ H s) : ∀ {vs : List V} {ds : List PyData} {us : List Value}, DqAll X.K H vs ds → PyData.hasDictAll ds = false → Vals vs us → ∃ as, ReadsAll s.heap us ds as
  | _, _, _, .nil, _, .nil => ⟨_, .nil⟩
  | _, _, _, .cons h hs, n, .cons r rs => by
    simp only [PyData.hasDictAll, Bool.or_eq_false_iff] at n
    obtain ⟨a1, h1⟩ := Dq.reads I h n.1 r
    obtain ⟨a2, h2⟩ := DqAll.reads I hs n.2 rs
    exact ⟨_, .cons h1 h2⟩
end
end
/-- what repr can show -/
structure Shw (d : PyData) : Prop where
  s : d.showable = true
  l : d.shown.length ≤ sizeLine
  n : d.hasDict = false
  d : d.depth ≤ 100
section
variable {X : Cy} {k : Nat}
theorem repr_go {A : Around} {prog : Program} {w : World} {E : Value → Shared → Prop} {s : Shared} {Q : Value → Shared → Prop} {u : Value} {d : PyData} {as : List Addr} (r : Reads s.heap u d as) (hs : Shw d) (nd : d.hasDict = false) (hg : A.guards = some []) (hu : A.units + 200 < cLine)
    (hQ : ∀ h' t tk, (∀ b o, s.heap.get? b = some o → h'.get? b = some o) → Q (.str d.shown t) { s with heap := h', toks := tk }) : wpAny (model prog w) A (call (.builtin "repr") [u]) Q E s := by
  have hdp := hs.d
  cases r with
  | none =>
    have e : (PyData.none).shown = "None" := by simp only [PyData.shown]
    rw [e] at hQ
    exact PySem.P.repr_of_none (hQ s.heap _ _ fun _ _ e => e)
  | bool b =>
    have e : (PyData.bool b).shown = (if b then Str.ofString "True" else Str.ofString "False") := by simp only [PyData.shown]
    rw [e] at hQ
    exact PySem.P.repr_of_bool (hQ s.heap _ _ fun _ _ e => e)
  | int i t =>
    have e : (PyData.int i).shown = toString i := by simp only [PyData.shown]
    rw [e] at hQ
    exact PySem.P.repr_of_int (by simpa [PyData.showable] using hs.s) (hQ s.heap _ _ fun _ _ e => e)
  | str x t =>
    have e : (PyData.str x).shown = reprText x := by simp only [PyData.shown]
    have hl := hs.l
    rw [e] at hQ hl
    exact PySem.P.repr_of_str (hQ s.heap _ _ fun _ _ e => e) hl
  | list h1 h2 h3 h4 =>
    rename_i a o vs n xs as'
    have e : (PyData.list xs).shown = listText (PyData.shownAll xs) := by simp only [PyData.shown]
    have hl := hs.l
    rw [e] at hQ hl
    simp only [PyData.depth] at hdp
    obtain ⟨bs, hb, hk⟩ := ReprAllK.of_readsAll (prog := prog) (w := w) h4 (by simpa [PyData.showable] using hs.s) (fun hx => by
      simp only [PyData.hasDict] at nd
      rw [nd] at hx
      cases hx) (fun t ht => Nat.le_trans (listText_mem_le ht) hl)
    have r : Reads s.heap (.ref a) (.list xs) _ := .list h1 h2 h3 h4
    have hna : a ∉ bs := not_mem_of_deeper r (by simp only [PyData.depth]; omega) hb
    obtain ⟨l⟩ := vs
    cases l with
    | nil =>
      have h4 : ReadsAll s.heap [] xs as' := h4
      cases h4
      simp only [PyData.shownAll, listText_nil] at hQ
      exact call_repr_slot (by omega) ⟨o, h1, h2⟩ F.slot_list_repr.toG (call_list_repr_empty ⟨o, h1, h2⟩ h1 h3 ⟨_, _, rfl, hQ s.heap _ _ fun _ _ e => e⟩)
    | cons x l =>
      exact call_repr_slot (by omega) ⟨o, h1, h2⟩ F.slot_list_repr.toG (call_list_reprK h1 h2 h3 hna (by simpa using hk.length_eq) (fun i y e => hk.item i y (by simpa using e)) (g := []) hg (fun b _ => Clear.nil b) (by show A.units + 1 + _ < cLine; omega) (fun _ _ e => e) (fun h' u tk hk' => ⟨_, _, rfl, hQ h' _ tk hk'⟩) hl)
  | tuple h1 h2 h3 h4 =>
    rename_i a o vs n xs
    have e : (PyData.tuple xs).shown = tupleText (PyData.shownAll xs) := by simp only [PyData.shown]
    have hl := hs.l
    rw [e] at hQ hl
    simp only [PyData.depth] at hdp
    obtain ⟨bs, hb, hk⟩ := ReprAllK.of_readsAll (prog := prog) (w := w) h4 (by simpa [PyData.showable] using hs.s) (fun hx => by
      simp only [PyData.hasDict] at nd
      rw [nd] at hx
      cases hx) (fun t ht => Nat.le_trans (tupleText_mem_le ht) hl)
    have r : Reads s.heap (.ref a) (.tuple xs) _ := .tuple h1 h2 h3 h4
    have hna : a ∉ bs := not_mem_of_deeper r (by simp only [PyData.depth]; omega) hb
    exact call_repr_slot (by omega) ⟨o, h1, h2⟩ F.slot_tuple_repr (call_tuple_reprK h1 h2 h3 hna hk (g := []) hg (fun b _ => Clear.nil b) (by show A.units + 1 + _ < cLine; omega) (fun _ _ e => e) (fun h' u tk hk' => ⟨_, _, rfl, hQ h' _ tk hk'⟩) hl)
  | dict _ _ _ _ _ =>
    simp only [PyData.hasDict] at nd
    cases nd
theorem cr_repr (rm : RoomG k X.A) : CallR X (.builtin "repr") (fun xs H Q => ∃ v d, xs = [v] ∧ Dq X.K H v d ∧ Shw d ∧ Q (.str d.shown) H) := by
  intro pins s σ H xs us Q I r h
  obtain ⟨v, d, rfl, hd, hs, q⟩ := h
  obtain ⟨u, rfl, ru⟩ := vals1 r
  obtain ⟨as, rd⟩ := Dq.reads I hd hs.n ru
  have hu := rm.r.un
  exact repr_go rd hs hs.n rm.g (by omega) fun h' t tk hk => ⟨.str d.shown, H, I.kept hk, ⟨t, rfl⟩, q⟩
end
section
variable {X : Cy} {z : Z} {Q : Sl → Z → Prop} {k : Nat}
theorem cd_repr {d : PyData} (rm : RoomG k X.A) (hs : Shw d) (h : Q (.sh (.str d.shown)) z) : CD X (.builtin "repr") [.sh d] z Q := fun c w σ vs kk b rr hk => by
  obtain ⟨v, rfl, r⟩ := p1 rr
  exact cB_of (cr_repr rm) ⟨v, d, rfl, Dp_mono b.same r, hs, hk _ _ w z b (.refl w) (vS _) h⟩
end
end Dl

namespace Dl
open PySem PySem.Spec L2
open PyProof.Rows hiding St

/-! ### a, *b = a tuple -/
theorem star_go {prog : Program} {w : World} {A : Around} {E : Value → Shared → Prop} {s : Shared} {l : Addr} {x : Value} {xs : List Value} {Q : List Value → Shared → Prop} (hl : IsTup s.heap l (x :: xs).toArray) (hh : A.handled = none) (hz : xs.length ≤ 16000)
    (h : ∀ (h2 : Heap) tk, (∀ b o, s.heap.get? b = some o → h2.get? b = some o) → Q [x, .ref h2.objs.size] { s with heap := h2.push { cls := .type "list", data := .seq xs.toArray }, toks := tk }) :
    wpAny (model prog w) A (unpackItems (.ref l) 2 (some 1)) Q E s := by
  have hsz : (x :: xs).toArray.size = xs.length + 1 := by simp
  have hlt : l < s.heap.objs.size := let ⟨o, ho, _⟩ := hl; Heap.lt_size ho
  have hne : l ≠ s.heap.objs.size := Nat.ne_of_lt hlt
  unfold unpackItems notIterableAtAll
  refine wpAny_bind (wpAny_bind (wpAny_specialOf hl.typeIs slot_tuple_iter.lookup (wpAny_pure ?_)))
  simp only [Bool.false_eq_true, if_false]
  refine wpAny_bind (wpAny_holding (iter_tuple hl ?_))
  refine wpAny_bind (wpAny_holding (draw_tuple hne 1 0 _ _ ⟨_, Heap.get?_push_size _ rfl, rfl, rfl⟩ (hl.push _) (by omega) fun h1 hit hs1 => ?_))
  have hl1 : IsTup h1 l (x :: xs).toArray := (hl.push _).extBut hs1.extBut hne
  have e1 : List.take 1 (List.drop 0 (x :: xs).toArray.toList) = [x] := by simp
  rw [e1]
  simp only [List.length_singleton, Nat.lt_irrefl, if_false]
  have hiL : s.heap.objs.size < h1.objs.size := let ⟨o, ho, _⟩ := hit; Heap.lt_size ho
  have hlL : l < h1.objs.size := let ⟨o, ho, _⟩ := hl1; Heap.lt_size ho
  refine wpAny_bind (wpAny_holding (PySem.W.kun_collect (s := { s with heap := h1 }) (T := "tuple_iterator") (.inr (.inr (.inr rfl))) (Walks.tuple (A := A.in1) hh s.heap.objs.size l hne (x :: xs).toArray) (fun _ _ st => st.1.typeIs) (k := 1) (by omega) ⟨hit, hl1⟩ hiL hlL (fun h2 tk hk => ?_) (by rw [sizeLine_eq]; omega)))
  have e2 : List.drop 1 (x :: xs).toArray.toList = xs := by simp
  rw [e2]
  simp only [Nat.add_one_sub_one, Nat.sub_self, Nat.not_lt_zero, if_false, Nat.sub_zero, List.take_length, List.drop_length, List.append_nil]
  exact wpAny_bind (wpAny_newList (wpAny_pure (h h2 tk fun b o e => hk b o (Nat.ne_of_lt (Heap.lt_size e)) (hs1.extBut b o (Nat.ne_of_lt (Heap.lt_size e)) (Heap.get?_push_of_some _ e)))) (by rw [sizeLine_eq]; omega))
def gStar (K : PySem.W.Frag) (t : TGs) : TG := fun v σ H Q => ∃ a x xs, v = .ref a ∧ SqT K H a (x :: xs) ∧ xs.length ≤ 16000 ∧ ∀ p, H p = none → t [x, .ref p] σ (upd H p (.lst xs)) Q
theorem pg_star {X : Cy} {e1 e2 : Expr} {p pos : Pos} {k : Nat} {t : TGs} (hc : X.calm = true) (h : PGs X [e1, e2] t) (hm : (assignEach [e1, .Starred e2 p] X.env).map (·.2) = (assignEach [e1, e2] X.env).map (·.2) := by rfl)
    (hn : (assignEach [e1, .Starred e2 p] X.env).length = 2 := by rfl) (hi : (assignEach [e1, .Starred e2 p] X.env).findIdx? (·.1) = some 1 := by rfl) : PG X (.Tuple [e1, .Starred e2 p] k pos) (gStar X.K t) := by
  refine ⟨fun pins s σ H v u Q I r hw => ?_⟩
  obtain ⟨a, x, xs, rfl, hq, hl, hw⟩ := hw
  cases r
  obtain ⟨its, rv, ht, hz⟩ := I.tuple hq
  cases rv with
  | cons rx rv =>
    rename_i y its
    rw [assign_Tuple]
    refine wpAny_bind (wpAny_standAt ?_)
    unfold unpack
    rw [hn, hi, hm]
    refine wpAny_bind (wpAny_holding (star_go ht (I.ok.hd hc) (by rw [← rv.length]; exact hl) fun h2 tk keep => ?_))
    have I1 : Inv X pins σ H { s with heap := h2, toks := tk } := I.kept keep
    have I2 := I1.lnew (t' := tk) rv (by rw [sizeLine_eq]; omega)
    exact h.run pins _ σ _ [x, .ref _] _ Q I2 (.cons rx (.cons rfl .nil)) (hw _ I1.fresh)
section
variable {K : PySem.W.Frag} {vs : List Nat} {i j : Nat} {y : Sl} {z : Z} {Q : Z → Prop} {d : PyData} {ds : List PyData}
theorem gd_starF (hy : y = .sh (.tuple (d :: ds))) (hi : i ∈ vs) (hj : j ∈ vs) (hl : ds.length ≤ 16000) (h : Q ⟨(z.sl.set i (.sh d)).set j (.sh (.list ds)), z.ob⟩) : GD K vs (gStar K (gNames [i, j])) y z Q := by
  subst hy
  intro c w σ v k bb r hk
  obtain ⟨a, xs, rfl, hq, hs⟩ := Dp_tupI r
  cases hs with
  | cons h1 hs =>
    rename_i x xs
    refine ⟨a, x, xs, rfl, Same.tup bb.same hq, by rw [DpAll_len hs]; exact hl, fun p hp => ?_⟩
    have l : w.Le ⟨w.rho, upd w.S p (.lst xs), upd w.H p (.lst xs)⟩ := le_new (bb.freshS hp)
    have b2 : B K c ⟨w.rho, upd w.S p (.lst xs), upd w.H p (.lst xs)⟩ σ z := bb.newS hp
    have hp2 : Dq K (upd w.S p (.lst xs)) (.ref p) (.list ds) := Dq.lst (.inl upd_same) (DpAll_mono l.st hs)
    exact gds_names (is := [i, j]) (ds := [d, .list ds]) (fun n hn => by
      simp only [List.mem_cons, List.not_mem_nil, or_false] at hn
      rcases hn with rfl | rfl
      · exact hi
      · exact hj) rfl h c ⟨w.rho, upd w.S p (.lst xs), upd w.H p (.lst xs)⟩ σ _ k b2 (.cons (Dp_mono l.st h1) (.cons hp2 .nil)) fun σ' z' b' e q => hk _ σ' z' b' l e q
end
end Dl

namespace Dl
open PySem PySem.Spec L2
open PyProof.Rows hiding St

/-! ### a < b < c; a text in some texts -/
section
variable {X : Cy} {a b e : Expr} {z : Z} {Q : Sl → Z → Prop} {pos : Pos}
theorem we_chain {op op' : CmpOp} (h : WE X a z fun x z1 => WE X b z1 fun y z2 => RD X (compareOp op) x y z2 fun t z3 => ∃ c, t = .sh (.bool c) ∧ (c = true → WE X e z3 fun u z4 => RD X (compareOp op') y u z4 Q) ∧ (c = false → Q (.sh (.bool false)) z3))
    (hm : lastMarks [op, op'] [b, e] = false := by with_unfolding_all rfl) : WE X (.Compare a [op, op'] [b, e] pos) z Q := fun c w σ k bb hk =>
  tE_of (pe_chain rB_op rB_op peB peB peB hm) (h c w σ _ bb fun v x w1 z1 b1 l1 r1 h1 => h1 c w1 σ _ b1 fun u y w2 z2 b2 l2 r2 h2 =>
    h2 c w2 σ v u _ b2 (r1.mono l2) r2 fun t s w3 z3 b3 l3 r3 ⟨d, e1, h4, h5⟩ => by
      subst e1
      have r3 : Dq X.K w3.S t (.bool d) := r3
      cases r3
      refine ⟨d, rfl, ?_⟩
      cases d with
      | true =>
        rw [if_pos rfl]
        exact h4 rfl c w3 σ _ b3 fun u2 y2 w4 z4 b4 l4 r4 h6 => h6 c w4 σ u u2 _ b4 (r2.mono (l3.trans l4)) r4 (hk.le (((l1.trans l2).trans l3).trans l4))
      | false =>
        rw [if_neg Bool.false_ne_true]
        exact hk _ _ w3 z3 b3 ((l1.trans l2).trans l3) (vB false) (h5 rfl))
theorem inV_strs (x : Str) : ∀ ys : List Str, inV (.str x) (ys.map V.str) = ys.contains x
  | [] => rfl
  | y :: ys => by
    show (eqV (.str y) (.str x) || inV (.str x) (ys.map V.str)) = _
    rw [inV_strs x ys, List.contains_cons]
    congr 1
    show (y == x) = (x == y)
    exact Bool.beq_comm
theorem flat_strs (ys : List Str) : (ys.map V.str).all flatV = true := by
  rw [List.all_eq_true]
  rintro v hv
  obtain ⟨n, _, rfl⟩ := List.mem_map.mp hv
  rfl
theorem strs_v {K : PySem.W.Frag} {H : Hp} : ∀ {vs : List V} {ys : List Str}, DqAll K H vs (ys.map .str) → vs = ys.map .str
  | [], [], _ => rfl
  | _, y :: ys, .cons h t => by
    cases h
    rw [strs_v t]
    rfl
theorem rd_notInS {x : Str} {ys : List Str} {ds : List PyData} (e : ds = ys.map .str) (h : Q (.sh (.bool (!ys.contains x))) z) : RD X (compareOp .NotIn) (.sh (.str x)) (.sh (.tuple ds)) z Q := fun c w σ v u kk b r1 r2 hk => by
  subst e
  cases Dp_str r1
  obtain ⟨p, xs, rfl, h3, s1⟩ := Dp_tupI r2
  have e := strs_v s1
  subst e
  refine rB_of op_notIn_seq ⟨p, _, rfl, .inr (Same.tup b.same h3), rfl, flat_strs ys, ?_⟩
  rw [if_pos rfl, inV_strs]
  exact hk _ _ w z b (.refl w) (vB _) h
end
end Dl

namespace Dl
open PySem PySem.Spec L2
open PyProof.Rows hiding St

/-! ### the module's table of ints by texts: T.get(k, d) -/
structure TabI (X : Cy) (x : Str) (f : Str → Option Int) : Prop where
  ex : ∃ (d : Addr) (es : Array DictEntry) (n : Nat), KDict X.K X.w d es n ∧ X.mg x = some (.ref d) ∧ ∀ k : Str, ∃ r : Option Value, PySem.W.nsIn X.K d k = some r ∧ ((r = none ∧ f k = none) ∨ ∃ i t, r = some (.int i t) ∧ f k = some i)
def tKGet (X : Cy) (d : Addr) (ty tx : TE) : TE := fun σ H Q => ty σ H fun y H2 => tx σ H2 fun z H3 => ∃ (k : Str) (j : Int) (r : Option Value), y = .str k ∧ z = .int j ∧ PySem.W.nsIn X.K d k = some r ∧ ((r = none ∧ Q (.int j) H3) ∨ ∃ i t, r = some (.int i t) ∧ Q (.int i) H3)
section
variable {X : Cy} {e f : Expr} {x : Str} {p apos cpos : Pos} {ty tx : TE} {z : Z} {Q : Sl → Z → Prop}
theorem pe_kget {d : Addr} {es : Array DictEntry} {n : Nat} (D : KDict X.K X.w d es n) (hg : Gl X x) (hm : X.mg x = some (.ref d)) (hdb : (x == ("__debug__" : Str)) = false) (he : PE X e ty) (hf : PE X f tx) (m : M2 X (.Name x p) "get" apos e f cpos) :
    PE X (.Call (.Attribute (.Name x p) "get" apos) [e, f] [] cpos) (tKGet X d ty tx) := by
  refine ⟨fun pins s σ H Q I h => wpAny_Call_method m.base m.few m.line PySem.F.plainAttrs_dict PySem.F.slot_dict_get PySem.F.type_dict_get (ld_glob I hg hm ?_ hdb)⟩
  refine ⟨kd_type D I, fun b q => ?_, ?_⟩
  · cases q
    exact ⟨_, I.kIn _ _ D.at_, rfl⟩
  rw [m.trees]
  refine Calls.callWith_builtin rfl (Calls.evalArgs_plain (Calls.spliced_cons (thn (he.run pins s σ H _ I h) fun iv s2 ⟨y, H2, I2, ry, q2⟩ => Calls.spliced_cons (thn (hf.run pins s2 σ H2 _ I2 q2) fun fv s3 ⟨u, H3, I3, ru, k, j, r, e1, e2, hr, q3⟩ => Calls.spliced_nil ?_))))
  subst e1 e2
  obtain ⟨t, rfl⟩ : ∃ t, iv = .str k t := ry
  obtain ⟨t2, rfl⟩ : ∃ t, fv = .int j t := ru
  refine call_meetsIn PySem.F.slot_dict_get (kd_type D I3) PySem.F.entry_dict_get (PySem.F.args_dict_get_3 _ _ _) (meets_dict_get_default (strKind X.prog X.w) d (PySem.strKind_is X.prog X.w k t) D.low _) ⟨_, PySem.W.mapOf_K (prog := X.prog) (w := X.w) I3.kIn D.at_ D.lit, ?_⟩
  show EP X pins σ Q ((findBy Value.isStrOf es k).getD (.int j t2)) _
  rw [PySem.W.find_K D.at_ hr]
  rcases q3 with ⟨rfl, q⟩ | ⟨i, t3, rfl, q⟩
  · exact ⟨.int j, H3, I3.tok _, ⟨t2, rfl⟩, q⟩
  · exact ⟨.int i, H3, I3.tok _, ⟨t3, rfl⟩, q⟩
theorem we_kget {g : Str → Option Int} (T : TabI X x g) (hg : Gn X x) (m : M2 X (.Name x p) "get" apos e f cpos) (h : WE X e z fun y z1 => WE X f z1 fun u z2 => ∃ (k : Str) (j : Int), y = .sh (.str k) ∧ u = .sh (.int j) ∧ Q (.sh (.int ((g k).getD j))) z2) :
    WE X (.Call (.Attribute (.Name x p) "get" apos) [e, f] [] cpos) z Q := fun c w σ kk bb hk => by
  obtain ⟨d, es, n, D, hm, ht⟩ := T.ex
  refine tE_of (pe_kget D hg.g hm hg.d peB peB m) (h c w σ _ bb fun v y w1 z1 b1 l1 r1 h1 => h1 c w1 σ _ b1 fun u y2 w2 z2 b2 l2 r2 ⟨k, j, e1, e2, hq⟩ => ?_)
  subst e1 e2
  cases Dp_str r1
  cases Dp_int r2
  obtain ⟨r, hr, q⟩ := ht k
  refine ⟨k, j, r, rfl, rfl, hr, ?_⟩
  rcases q with ⟨e3, e4⟩ | ⟨i, t, e3, e4⟩
  · refine .inl ⟨e3, ?_⟩
    rw [e4] at hq
    exact hk _ _ w2 z2 b2 (l1.trans l2) (vI j) hq
  · refine .inr ⟨i, t, e3, ?_⟩
    rw [e4] at hq
    exact hk _ _ w2 z2 b2 (l1.trans l2) (vI i) hq
end
end Dl

namespace Dl
open PySem PySem.Spec L2
open PyProof.Rows hiding St

/-! ### a display of a dict, looked up at once -/
section
variable {X : Cy} {e : Expr} {z : Z} {Q : Sl → Z → Prop} {pos pos2 : Pos} {k1 k2 k3 : Str} {v1 v2 v3 : Int}
theorem we_disp3 {a1 a2 a3 b1 b2 b3 : Pos} {c1 c2 c3 d1 d2 d3} (hu : X.A.units + 1 < cLine) (h : WE X e z fun y z1 => ∃ (k : Str) (v : Int), y = .sh (.str k) ∧ (mergeK [] [(.inr k1, .int v1), (.inr k2, .int v2), (.inr k3, .int v3)]).find? (fun kv => decide (kv.1 = (.inr k : Key))) = some (.inr k, .int v) ∧ Q (.sh (.int v)) z1) (hs : NoSl e) (hn : ∀ C d z, ¬ X.RX C d z := by assumption) :
    WE X (.Subscript (.Dict [some (.Constant (.str k1) c1 a1), some (.Constant (.str k2) c2 a2), some (.Constant (.str k3) c3 a3)] [.Constant (.int v1) d1 b1, .Constant (.int v2) d2 b2, .Constant (.int v3) d3 b3] pos2) e pos) z Q := fun c w σ kk bb hk => by
  refine tE_of (pe_dget hu (pe_disp (pps_cons pe_str pe_int (pps_cons pe_str pe_int (pps_cons pe_str pe_int pps_nil))) rfl rfl (by simp) (by simp)) peB hs) (fun p hp => ?_)
  refine ⟨upd_same, [(.inr k1, .int v1), (.inr k2, .int v2), (.inr k3, .int v3)], rfl, by simp, ?_⟩
  have as := bb.asideNew hp
  have bA := bb.aside (o := .dK []) as
  have asA : Aside c ⟨w.rho, w.S, upd w.H p (.dK [])⟩ p := ⟨as.nr, as.nS, as.nc⟩
  have bB := bA.aside (o := .dK (mergeK [] [(.inr k1, .int v1), (.inr k2, .int v2), (.inr k3, .int v3)])) asA
  have asB : Aside c ⟨w.rho, w.S, upd (upd w.H p (.dK [])) p (.dK (mergeK [] [(.inr k1, .int v1), (.inr k2, .int v2), (.inr k3, .int v3)]))⟩ p := ⟨as.nr, as.nS, as.nc⟩
  refine h (.of X hn _) _ σ _ bB.self fun u y w2 z2 b2 l2 r2 ⟨k, v, e1, hf, hq⟩ => ?_
  subst e1
  cases Dp_str r2
  obtain ⟨as2, hD2⟩ := asB.on bB upd_same b2
  refine ⟨p, .int v, rfl, .inl ⟨_, .inr k, .inl hD2, rfl, ?_⟩, ?_⟩
  · unfold valV
    rw [hf]
    rfl
  · exact hk _ _ w2 z2 (bB.comp b2) ((le_aside (w := w)).trans ((le_aside (w := ⟨w.rho, w.S, upd w.H p (.dK [])⟩)).trans l2)) (vI v) hq
end
end Dl

namespace Dl
open PySem PySem.Spec L2
open PyProof.Rows hiding St

/-! ### a, b, c = x, y, z -/
section
variable {X : Cy} {z : Z} {Q : Out → Prop} {pos : Pos}
theorem swap3 {x y u : Str} {a b c : Expr} {px py pu pt : Pos} {kt k2 pt2} (hk : X.env.scope.kind = .function) (hx : X.env.scope.names.lookup x = some .local) (hy : X.env.scope.names.lookup y = some .local) (hu : X.env.scope.names.lookup u = some .local) (hxy : (x == y) = false) (hxu : (x == u) = false) (hyu : (y == u) = false)
    (hl2 : (py.line == px.line) = true := by rfl) (hl3 : (pu.line == px.line) = true := by rfl) (hs : ([a, b, c].any fun | .Starred .. => true | _ => false) = false := by rfl) (h1 : [a, b, c].all (foldedForSure 8) = false := by rfl) (h2 : [a, b, c].all (constantsAlone 8) = false := by rfl) :
    swappedStores [.Tuple [.Name x px, .Name y py, .Name u pu] kt pt] (.Tuple [a, b, c] k2 pt2) X.env = pure (some [x, y, u]) := by
  have kx : X.env.kindOf x = some .local := hx
  have ky : X.env.kindOf y = some .local := hy
  have ku : X.env.kindOf u = some .local := hu
  have hb : X.env.blockKind = .function := by unfold Env.blockKind; rw [hk]; rfl
  have hyx : (y == x) = false := by rw [Bool.beq_comm]; exact hxy
  have hux : (u == x) = false := by rw [Bool.beq_comm]; exact hxu
  have huy : (u == y) = false := by rw [Bool.beq_comm]; exact hyu
  unfold swappedStores
  simp only [hb, kx, ky, ku, hl2, hl3, h1, h2, hs, List.head?, Option.map, Option.getD, Expr.pos, List.filterMap, List.length]
  simp [hxy, hyx, hux, huy, hxu, hyu, List.eraseDups, List.eraseDupsBy, List.eraseDupsBy.loop, kx, ky, ku, hl2, hl3]
  intro h
  rw [List.any_cons, List.any_cons, List.any_cons, Bool.or_eq_false_iff, Bool.or_eq_false_iff, Bool.or_eq_false_iff] at hs
  rcases h with h | h | h
  · exact absurd (h.symm.trans hs.1) (by simp)
  · exact absurd (h.symm.trans hs.2.1) (by simp)
  · exact absurd (h.symm.trans hs.2.2.1) (by simp)
theorem w1_par3 {n m o : Nat} {x y u : Str} {a b e : Expr} {px py pu pt : Pos} {kt k2 pt2} (hN : X.N.Nodup) (hi : X.N[n]? = some x) (hj : X.N[m]? = some y) (hl : X.N[o]? = some u) (hnm : n ≠ m) (hno : n ≠ o) (hmo : m ≠ o)
    (h : WE X a z fun v1 z1 => WE X b z1 fun v2 z2 => WE X e z2 fun v3 z3 => Q (.nx ⟨((z3.sl.set n v1).set m v2).set o v3, z3.ob⟩))
    (hw : swappedStores [.Tuple [.Name x px, .Name y py, .Name u pu] kt pt] (.Tuple [a, b, e] k2 pt2) X.env = pure (some [x, y, u]))
    (hs : swapsWithSole [.Tuple [.Name x px, .Name y py, .Name u pu] kt pt] (.Tuple [a, b, e] k2 pt2) pos.line X.env = pure false)
    (hx : X.env.scope.names.lookup x = some .local) (hy : X.env.scope.names.lookup y = some .local) (hu : X.env.scope.names.lookup u = some .local) (hc : X.calm = true)
    (he : starEach [a, b, e] X.env = (false, eval a X.env) :: starEach [b, e] X.env := by rfl) (he2 : starEach [b, e] X.env = (false, eval b X.env) :: starEach [e] X.env := by rfl) (he3 : starEach [e] X.env = (false, eval e X.env) :: starEach [] X.env := by rfl) :
    W1 X (.Assign [.Tuple [.Name x px, .Name y py, .Name u pu] kt pt] (.Tuple [a, b, e] k2 pt2) pos) z Q := fun c w σ D bb hk =>
  tS_of (ps_par3 hc hN hi hj hl hnm hno hmo hx hy hu (pa_cons peB (pa_cons peB (pa_cons peB pa_nil he3) he2) he) hw hs) (h c w σ _ bb fun v x w1 z1 b1 l1 r1 h1 => h1 c w1 σ _ b1 fun u y w2 z2 b2 l2 r2 h2 => h2 c w2 σ _ b2 fun t s w3 z3 b3 l3 r3 hq =>
    ⟨v, u, t, rfl, hk.nx w3 _ _ (((b3.setSl (r1.mono (l2.trans l3))).setSl (r2.mono l3)).setSl r3) ((l1.trans l2).trans l3) hq⟩)
end
end Dl

namespace Dl
open PySem PySem.Spec L2
open PyProof.Rows hiding St

/-! ### a box first, then data, by a number of draws -/
structure Bx.G (b : Bx) : Prop where
  a0 : 0 ≤ b.a
  s0 : 0 ≤ b.s
  s1 : b.s < 1099511627776
  c0 : 0 ≤ b.c
def BoxE (Pre : List PyData → Prop) (cost : Nat) (Post : List PyData → PyData → Prop) : Rl := fun xs om Q => ∃ (b : Bx) (ds : List PyData), xs = .ob 0 :: ds.map .sh ∧ om = [b.o] ∧ b.G ∧ b.c + (cost : Int) ≤ 1099511627776 ∧ Pre ds ∧
  ∀ (d : PyData) (b' : Bx), Post ds d → b'.G → b'.c ≤ b.c + (cost : Int) → Q (.sh d) [b'.o]
theorem Bx.G.ok {b : Bx} {n : Nat} (h : b.G) (k : b.c + (n : Int) ≤ 1099511627776) : b.Ok n := ⟨h.a0, h.s0, h.s1, h.c0, k⟩
theorem Bx.Ok.g {b : Bx} {n : Nat} (h : b.Ok n) : b.G := ⟨h.a0, h.s0, h.s1, h.c0⟩
theorem Df.e {P : Program} {w : World} {K : PySem.W.Frag} {mg : Str → Option Value} {base : Heap} {x : Str} {k : Nat} {ps : List Str} {Pre : List PyData → Prop} {cost : Nat} {Post : List PyData → PyData → Prop} (D : Df P w K mg base x k ps (BoxD Pre (fun _ => cost) Post)) : Df P w K mg base x k ps (BoxE Pre cost Post) :=
  D.imp fun xs om Q ⟨b, ds, e1, e2, hG, hc, hp, hq⟩ => ⟨Q, ⟨b, ds, e1, e2, hG.ok hc, hp, fun d b' h1 h2 => hq d b' h1 h2.ok.g h2.le⟩, fun _ _ h => h⟩
section
variable {X : Cy} {x : Str} {p pos : Pos} {e : Expr} {es : List Expr} {z : Z} {Q : Sl → Z → Prop} {k kk : Nat} {ps : List Str}
theorem Cf.bd {Pre : List PyData → Prop} {cost : Nat} {Post : List PyData → PyData → Prop} (c : Cf X x k ps (BoxE Pre cost Post)) : Cf X x k ps (BoxD Pre (fun _ => cost) Post) := ⟨c.g, Df.imp c.d fun xs om Q ⟨b, ds, e1, e2, hk, hp, hq⟩ => ⟨Q, ⟨b, ds, e1, e2, hk.g, hk.c1, hp, fun d b' h1 h2 h3 => hq d b' h1 ⟨⟨h2.a0, h2.s0, h2.s1, h2.c0, by have : b.c + (cost : Int) ≤ 1099511627776 := hk.c1; show b'.c + ((0 : Nat) : Int) ≤ _; omega⟩, h3⟩⟩, fun _ _ h => h⟩⟩
theorem we_cE {Pre : List PyData → Prop} {cost : Nat} {Post : List PyData → PyData → Prop} (c : Cf X x k ps (BoxE Pre cost Post)) (hr : RoomG kk X.A) (hle : k ≤ kk)
    (h : WA X (e :: es) z fun xs z1 => ∃ i ys ds b, xs = .ob i :: ys ∧ Dl.allSh ys = some ds ∧ z1.ob[i]? = some (Bx.o b) ∧ b.G ∧ b.c + (cost : Int) ≤ 1099511627776 ∧ Pre ds ∧ xs.length = ps.length ∧ ∀ (d : PyData) (b' : Bx), Post ds d → b'.G → b'.c ≤ b.c + (cost : Int) → Q (.sh d) ⟨z1.sl, z1.ob.set i b'.o⟩)
    (he : starEach (e :: es) X.env = (false, eval e X.env) :: starEach es X.env) (hpl : (backTo pos (starEach es X.env)).any (·.1) = false) : WE X (.Call (.Name x p) (e :: es) [] pos) z Q :=
  we_cX c.bd hr hle (h.mono fun xs z1 ⟨i, ys, ds, b, e1, e2, e3, hG, hc, hp, hl, hq⟩ => ⟨i, ys, ds, b, e1, e2, e3, hG.ok hc, hp, hl, fun d b' h1 h2 => hq d b' h1 h2.ok.g h2.le⟩) he hpl
/-- by a letter of the caller's own -/
def BoxA {α : Type} (Pre : α → List PyData → Prop) (cost : Nat) (Post : α → List PyData → PyData → Prop) : Rl := fun xs om Q => ∃ a : α, BoxE (Pre a) cost (Post a) xs om Q
theorem Cf.at {α : Type} {Pre : α → List PyData → Prop} {cost : Nat} {Post : α → List PyData → PyData → Prop} (c : Cf X x k ps (BoxA Pre cost Post)) (a : α) : Cf X x k ps (BoxE (Pre a) cost (Post a)) := ⟨c.g, Df.imp c.d fun xs om Q h => ⟨Q, ⟨a, h⟩, fun _ _ h => h⟩⟩
end
end Dl

namespace Dl
open PySem PySem.Spec L2
open PyProof.Rows hiding St

/-! ### a module's table of ints by texts, as the head finds it -/
structure TabG (K : PySem.W.Frag) (w : World) (mg : Str → Option Value) (x : Str) (f : Str → Option Int) : Prop where
  ex : ∃ (d : Addr) (es : Array DictEntry) (n : Nat), KDict K w d es n ∧ mg x = some (.ref d) ∧ ∀ k : Str, ∃ r : Option Value, PySem.W.nsIn K d k = some r ∧ ((r = none ∧ f k = none) ∨ ∃ i t, r = some (.int i t) ∧ f k = some i)
theorem tab_here {P : Program} {w : World} {K : PySem.W.Frag} {mg : Str → Option Value} {base : Heap} {X : Cy} {N : List Str} {sc : Scope} {k : Nat} {x : Str} {f : Str → Option Int} (g : Good X P w K mg base N sc k) (T : TabG K w mg x f) : TabI X x f := ⟨by
  rw [g.K, g.w, g.mg]
  exact T.ex⟩
theorem keyOf_mem {P : Params} : ∀ {l : List DictEntry} {ks : List Str}, l.map He.keyOf = He.keysIn P ks → ∀ e ∈ l, ∃ x t, e.key = .str x t ∧ x ∈ ks
  | [], _, _, e, he => by cases he
  | d :: l, [], h, _, _ => by cases h
  | d :: l, k :: ks, h, e, he => by
    have h1 : He.keyOf d :: l.map He.keyOf = some (k, PyData.keyHash P k) :: He.keysIn P ks := h
    injection h1 with h2 h3
    rcases List.mem_cons.mp he with rfl | he
    · unfold He.keyOf at h2
      split at h2
      · rename_i x t q
        have h4 := Option.some.inj h2
        exact ⟨x, t, q, by rw [(Prod.mk.inj h4).1]; exact List.mem_cons_self⟩
      · cases h2
    · obtain ⟨x, t, h5, h6⟩ := keyOf_mem h3 e he
      exact ⟨x, t, h5, List.mem_cons_of_mem _ h6⟩
theorem dicW_es {K : PySem.W.Frag} {a : Addr} {r : List (Option (Str × Int))} {oc : Value} {od : Option Addr} {es : Array DictEntry} {n : Nat} {sl : Array (Option Value)} (h : He.dicW K a = some r) (q : K.lookup a = some ⟨oc, od, .dict es n, sl⟩) : es.toList.map He.keyOf = r := by
  unfold He.dicW at h
  rw [q] at h
  cases oc with
  | type c =>
    cases od with
    | none =>
      have h1 : (match decide (c = "dict") && (sl.isEmpty && !(a == sysModules)) with
            | true => some (es.toList.map He.keyOf)
            | false => none) = some r := h
      split at h1
      · exact Option.some.inj h1
      · cases h1
    | some b => cases h
  | _ => cases h
theorem lookup_memI {k : Str} {i : Int} : ∀ {l : List (Str × Int)}, l.lookup k = some i → (k, i) ∈ l
  | [], h => by cases h
  | (b, u) :: r, h => by
    rw [List.lookup_cons] at h
    split at h
    · rename_i e
      rw [Option.some.inj h, beq_iff_eq.mp e]
      exact List.mem_cons_self
    · exact List.mem_cons_of_mem _ (lookup_memI h)
theorem lookup_noneI {k : Str} : ∀ {l : List (Str × Int)}, l.lookup k = none → k ∉ l.map (·.1)
  | [], _ => by simp
  | (b, u) :: r, h => by
    rw [List.lookup_cons] at h
    split at h
    · cases h
    · rename_i e
      intro hm
      rcases List.mem_cons.mp hm with hm | hm
      · rw [hm] at e
        simp at e
      · exact lookup_noneI h hm
theorem tabG_mk {K : PySem.W.Frag} {w : World} {mg : Str → Option Value} {x : Str} {kvs : List (Str × Int)} (hm : mg x = some (.ref (He.ga K x))) (hd : He.dicW K (He.ga K x) = some (He.keysIn w.params (kvs.map (·.1)))) (hv : He.valsB K (He.ga K x) (kvs.map fun q => (q.1, He.Dv.int q.2)) = true) :
    TabG (thin K) w mg x (fun k => kvs.lookup k) := by
  obtain ⟨es, n, D⟩ := He.dicW_ok hd
  have hl : (thin K).lookup (He.ga K x) = some ⟨.type "dict", none, .dict es n, #[]⟩ := thin_lookup D.at_ rfl
  have hes := dicW_es hd D.at_
  refine ⟨_, es, n, ⟨hl, D.lit, D.low⟩, hm, fun k => ?_⟩
  have hns : PySem.W.nsIn (thin K) (He.ga K x) k = PySem.W.nsIn K (He.ga K x) k := by
    unfold PySem.W.nsIn
    rw [hl, D.at_]
  rw [hns]
  cases e : kvs.lookup k with
  | some i =>
    obtain ⟨u, h1, h2⟩ := He.valsB_ok hv (q := (k, He.Dv.int i)) (List.mem_map.mpr ⟨(k, i), lookup_memI e, rfl⟩)
    obtain ⟨t, rfl⟩ : ∃ t, u = .int i t := h2
    exact ⟨_, h1, .inr ⟨i, t, rfl, rfl⟩⟩
  | none =>
    refine ⟨none, ?_, .inl ⟨rfl, rfl⟩⟩
    have hk := lookup_noneI e
    have hf : es.toList.find? (·.key.isStr k) = none := by
      rw [List.find?_eq_none]
      intro d hd2
      obtain ⟨y, t, h1, h2⟩ := keyOf_mem hes d hd2
      rw [h1]
      show ¬ (y == k) = true
      intro q
      rw [beq_iff_eq.mp q] at h2
      exact hk h2
    have ha : es.toList.any (·.refKey) = false := by
      rw [List.any_eq_false]
      intro d hd2
      obtain ⟨y, t, h1, h2⟩ := keyOf_mem hes d hd2
      unfold DictEntry.refKey
      rw [h1]
      simp
    unfold PySem.W.nsIn
    rw [D.at_]
    simp only [hf, ha]
    rfl
end Dl

namespace Dl
open PySem PySem.Spec L2
open PyProof.Rows hiding St

/-! ### dicts by pairs -/
section
variable {κ β : Type} [DecidableEq κ]
def valG (kvs : List (κ × β)) (k : κ) : Option β := (kvs.find? fun kv => decide (kv.1 = k)).map (·.2)
def putG (kvs : List (κ × β)) (k : κ) (v : β) : List (κ × β) := if (kvs.any fun kv => decide (kv.1 = k)) = true then kvs.map (fun kv => if kv.1 = k then (kv.1, v) else kv) else kvs ++ [(k, v)]
def mergeG (kvs more : List (κ × β)) : List (κ × β) := more.foldl (fun acc kv => putG acc kv.1 kv.2) kvs
end
/-- entries side by side -/
def PKV {κ β : Type} (F : V → β → Prop) (l : List (κ × V)) (m : List (κ × β)) : Prop := Paired (fun p q => p.1 = q.1 ∧ F p.2 q.2) l m
section
variable {κ β : Type} [DecidableEq κ] {F : V → β → Prop}
theorem PKV.any {l : List (κ × V)} {m : List (κ × β)} (h : PKV F l m) (k : κ) : (l.any fun kv => decide (kv.1 = k)) = (m.any fun kv => decide (kv.1 = k)) := by
  induction h with
  | nil => rfl
  | cons q _ ih => rw [List.any_cons, List.any_cons, ih, q.1]
theorem PKV.val {l : List (κ × V)} {m : List (κ × β)} (h : PKV F l m) (k : κ) : (valV l k = none ∧ valG m k = none) ∨ ∃ v d, valV l k = some v ∧ valG m k = some d ∧ F v d := by
  induction h with
  | nil => exact .inl ⟨rfl, rfl⟩
  | @cons p q ps qs hq _ ih =>
    by_cases e : p.1 = k
    · exact .inr ⟨p.2, q.2, by simp [valV, List.find?_cons, e], by simp [valG, List.find?_cons, ← hq.1, e], hq.2⟩
    · have e' : ¬ q.1 = k := by rw [← hq.1]; exact e
      have h1 : valV (p :: ps) k = valV ps k := by simp [valV, List.find?_cons, e]
      have h2 : valG (q :: qs) k = valG qs k := by simp [valG, List.find?_cons, e']
      rw [h1, h2]
      exact ih
theorem PKV.put {l : List (κ × V)} {m : List (κ × β)} (h : PKV F l m) (k : κ) {v : V} {d : β} (hv : F v d) : PKV F (putK l k v) (putG m k d) := by
  unfold putK putG
  rw [h.any k]
  split
  · rename_i hc
    clear hc
    induction h with
    | nil => exact .nil
    | @cons p q ps qs hq _ ih =>
      rw [List.map_cons, List.map_cons]
      refine .cons ?_ ih
      by_cases e : p.1 = k
      · rw [if_pos e, if_pos (by rw [← hq.1]; exact e)]
        exact ⟨hq.1, hv⟩
      · rw [if_neg e, if_neg (by rw [← hq.1]; exact e)]
        exact hq
  · exact paired_app h (.cons ⟨rfl, hv⟩ .nil)
theorem PKV.fst {l : List (κ × V)} {m : List (κ × β)} (h : PKV F l m) : l.map (·.1) = m.map (·.1) := by
  induction h with
  | nil => rfl
  | cons q _ ih => rw [List.map_cons, List.map_cons, ih, q.1]
theorem PKV.snd {l : List (κ × V)} {m : List (κ × β)} (h : PKV F l m) : Paired F (l.map (·.2)) (m.map (·.2)) := by
  induction h with
  | nil => exact .nil
  | cons q _ ih => exact .cons q.2 ih
theorem PKV.of : ∀ {l : List (κ × V)} {m : List (κ × β)}, l.map (·.1) = m.map (·.1) → Paired F (l.map (·.2)) (m.map (·.2)) → PKV F l m
  | [], [], _, _ => .nil
  | [], _ :: _, h, _ => by cases h
  | _ :: _, [], h, _ => by cases h
  | p :: l, q :: m, h, h2 => by
    rw [List.map_cons, List.map_cons] at h h2
    injection h with h3 h4
    cases h2 with
    | cons r t => exact .cons ⟨h3, r⟩ (PKV.of h4 t)
theorem PKV.mono {G : V → β → Prop} {l : List (κ × V)} {m : List (κ × β)} (h : PKV F l m) (q : ∀ v d, F v d → G v d) : PKV G l m := Paired.mono (fun _ _ z => ⟨z.1, q _ _ z.2⟩) h
theorem zip_self : ∀ l : List (κ × V), (l.map (·.1)).zip (l.map (·.2)) = l
  | [] => rfl
  | p :: l => by rw [List.map_cons, List.map_cons, List.zip_cons_cons, zip_self l]
theorem zip_fst' : ∀ {ks : List κ} {vs : List V}, ks.length = vs.length → (ks.zip vs).map (·.1) = ks
  | [], [], _ => rfl
  | k :: ks, v :: vs, h => by rw [List.zip_cons_cons, List.map_cons, zip_fst' (by simpa using h)]
theorem zip_snd' : ∀ {ks : List κ} {vs : List V}, ks.length = vs.length → (ks.zip vs).map (·.2) = vs
  | [], [], _ => rfl
  | k :: ks, v :: vs, h => by rw [List.zip_cons_cons, List.map_cons, zip_snd' (by simpa using h)]
end
/-- a dict of the store -/
def dkO (kvs : List (Key × Sl)) : OO := .dk (kvs.map (·.1)) (kvs.map (·.2))
theorem dk_at {K : PySem.W.Frag} {w : Wd} {p : Addr} {kvs : List (Key × Sl)} (h : Ob K w p (dkO kvs)) : w.S p = none ∧ ∃ l, w.H p = some (.dK l) ∧ PKV (Vl K w) l kvs := by
  obtain ⟨hS, vs, hH, hv⟩ := h
  have hl : (kvs.map (·.1)).length = vs.length := by rw [hv.length, List.length_map, List.length_map]
  exact ⟨hS, _, hH, PKV.of (by rw [zip_fst' hl]) (by rw [zip_snd' hl]; exact hv)⟩
theorem dk_ob {K : PySem.W.Frag} {w : Wd} {p : Addr} {kvs : List (Key × Sl)} {l : List (Key × V)} (hS : w.S p = none) (hH : w.H p = some (.dK l)) (h : PKV (Vl K w) l kvs) : Ob K w p (dkO kvs) := by
  refine ⟨hS, l.map (·.2), ?_, h.snd⟩
  rw [← h.fst, zip_self]
  exact hH
/-- data of a dict -/
def dicD (es : List (Key × PyData)) : PyData := .dict (es.map fun q => (kD q.1, q.2))
theorem kD_inj {k k' : Key} (h : kD k = kD k') : k = k' := by
  cases k <;> cases k' <;> simp [kD] at h <;> rw [h]
theorem dicD_inj : ∀ {a b : List (Key × PyData)}, (a.map fun q => (kD q.1, q.2)) = (b.map fun q => (kD q.1, q.2)) → a = b
  | [], [], _ => rfl
  | [], _ :: _, h => by cases h
  | _ :: _, [], h => by cases h
  | p :: a, q :: b, h => by
    rw [List.map_cons, List.map_cons] at h
    injection h with h1 h2
    rw [dicD_inj h2]
    obtain ⟨p1, p2⟩ := p
    obtain ⟨q1, q2⟩ := q
    have h3 := Prod.mk.inj h1
    have h4 : p1 = q1 := kD_inj h3.1
    have h5 : p2 = q2 := h3.2
    rw [h4, h5]
theorem Dq_dic {K : PySem.W.Frag} {H : Hp} {v : V} {es : List (Key × PyData)} (h : Dq K H v (dicD es)) : ∃ a l, v = .ref a ∧ H a = some (.dK l) ∧ PKV (Dq K H) l es := by
  unfold dicD at h
  generalize e : (PyData.dict (es.map fun q => (kD q.1, q.2))) = d at h
  cases h with
  | dic h1 h2 h3 =>
    injection e with e
    rw [dicD_inj e]
    exact ⟨_, _, rfl, h1, PKV.of h2 (DqAll_paired h3)⟩
  | _ => cases e
theorem dic_Dq {K : PySem.W.Frag} {H : Hp} {a : Addr} {l : List (Key × V)} {es : List (Key × PyData)} (h : H a = some (.dK l)) (q : PKV (Dq K H) l es) : Dq K H (.ref a) (dicD es) := .dic h q.fst (paired_DqAll q.snd)
theorem kV_Dq {K : PySem.W.Frag} {H : Hp} {v : V} {k : Key} (h : Dq K H v (kD k)) : v = kV k := by
  cases k <;> (unfold kD at h; cases h; rfl)
section
variable {X : Cy} {z : Z} {Q : Sl → Z → Prop} {pos pos' apos cpos : Pos} {o i e f value : Expr}
/-! d.get(k, x), d[k] -/
theorem we_dget2F (hu : X.A.units + 1 < cLine) (m : M2 X o "get" apos e f cpos) (h : WE X o z fun x z1 => ∃ es, x = .sh (dicD es) ∧ WE X e z1 fun y z2 => WE X f z2 fun u z3 => ∃ k, y = .sh (kD k) ∧ Q (((valG es k).map Sl.sh).getD u) z3) :
    WE X (.Call (.Attribute o "get" apos) [e, f] [] cpos) z Q := fun c w σ kk bb hk =>
  tE_of (pe_dget2 hu peB peB peB m) (h c w σ _ bb fun v x w1 z1 b1 l1 r1 ⟨es, ex, h1⟩ => by
    subst ex
    obtain ⟨a, l, rfl, ha, hp⟩ := Dq_dic r1
    refine ⟨a, rfl, .inl ⟨l, .inl (b1.same _ _ ha)⟩, h1 c w1 σ _ b1 fun v2 y w2 z2 b2 l2 r2 h2 => h2 c w2 σ _ b2 fun v3 u w3 z3 b3 l3 r3 ⟨k, ey, hq⟩ => ?_⟩
    subst ey
    have ev := kV_Dq r2
    subst ev
    have ha3 := b3.same _ _ (l3.st _ _ (l2.st _ _ ha))
    refine ⟨_, DGet.k ha3, ?_⟩
    have l13 := (l1.trans l2).trans l3
    rcases hp.val k with ⟨e1, e2⟩ | ⟨v4, d, e1, e2, hd⟩
    · rw [e1]
      rw [e2] at hq
      exact hk _ _ w3 z3 b3 l13 r3 hq
    · rw [e1]
      rw [e2] at hq
      exact hk _ _ w3 z3 b3 l13 (vsh (Dp_mono l3.st (Dp_mono l2.st hd))) hq)
theorem we_dget2O (hu : X.A.units + 1 < cLine) (m : M2 X o "get" apos e f cpos) (h : WE X o z fun x z1 => ∃ n kvs, x = .ob n ∧ z1.ob[n]? = some (dkO kvs) ∧ WE X e z1 fun y z2 => WE X f z2 fun u z3 => ∃ kvs3 k, z3.ob[n]? = some (dkO kvs3) ∧ y = .sh (kD k) ∧ Q ((valG kvs3 k).getD u) z3) :
    WE X (.Call (.Attribute o "get" apos) [e, f] [] cpos) z Q := fun c w σ kk bb hk =>
  tE_of (pe_dget2 hu peB peB peB m) (h c w σ _ bb fun v x w1 z1 b1 l1 r1 ⟨n, kvs, ex, hn, h1⟩ => by
    subst ex
    obtain ⟨a, ha, rfl⟩ := r1
    obtain ⟨_, l, hl, _⟩ := dk_at (b1.ob n _ a hn ha)
    refine ⟨a, rfl, .inl ⟨l, .inl hl⟩, h1 c w1 σ _ b1 fun v2 y w2 z2 b2 l2 r2 h2 => h2 c w2 σ _ b2 fun v3 u w3 z3 b3 l3 r3 ⟨kvs3, k, hn3, ey, hq⟩ => ?_⟩
    subst ey
    have ev := kV_Dq r2
    subst ev
    obtain ⟨_, l3', hl3, hp⟩ := dk_at (b3.ob n _ a hn3 (l3.rho n a (l2.rho n a ha)))
    refine ⟨_, DGet.k hl3, ?_⟩
    have l13 := (l1.trans l2).trans l3
    rcases hp.val k with ⟨e1, e2⟩ | ⟨v4, d, e1, e2, hd⟩
    · rw [e1]
      rw [e2] at hq
      exact hk _ _ w3 z3 b3 l13 r3 hq
    · rw [e1]
      rw [e2] at hq
      exact hk _ _ w3 z3 b3 l13 hd hq)
theorem we_dgetF (hu : X.A.units + 1 < cLine) (h : WE X o z fun x z1 => WE X i z1 fun y z2 => ∃ es k d, x = .sh (dicD es) ∧ y = .sh (kD k) ∧ valG es k = some d ∧ Q (.sh d) z2) (hs : NoSl i := by exact fun _ _ => rfl) : WE X (.Subscript o i pos) z Q := fun c w σ kk bb hk =>
  tE_of (pe_dget hu peB peB hs) (h c w σ _ bb fun v x w1 z1 b1 l1 r1 h1 => h1 c w1 σ _ b1 fun v2 y w2 z2 b2 l2 r2 ⟨es, k, d, ex, ey, hv, hq⟩ => by
    subst ex ey
    obtain ⟨a, l, rfl, ha, hp⟩ := Dq_dic r1
    have ev := kV_Dq r2
    subst ev
    rcases hp.val k with ⟨e1, e2⟩ | ⟨v4, d', e1, e2, hd⟩
    · rw [e2] at hv
      cases hv
    · rw [e2] at hv
      cases hv
      refine ⟨a, v4, rfl, ?_, hk _ _ w2 z2 b2 (l1.trans l2) (vsh (Dp_mono l2.st hd)) hq⟩
      rw [← e1]
      exact DGet.k (b2.same _ _ (l2.st _ _ ha)))
theorem we_dgetO (hu : X.A.units + 1 < cLine) (h : WE X o z fun x z1 => WE X i z1 fun y z2 => ∃ n kvs k u, x = .ob n ∧ z2.ob[n]? = some (dkO kvs) ∧ y = .sh (kD k) ∧ valG kvs k = some u ∧ Q u z2) (hs : NoSl i := by exact fun _ _ => rfl) : WE X (.Subscript o i pos) z Q := fun c w σ kk bb hk =>
  tE_of (pe_dget hu peB peB hs) (h c w σ _ bb fun v x w1 z1 b1 l1 r1 h1 => h1 c w1 σ _ b1 fun v2 y w2 z2 b2 l2 r2 ⟨n, kvs, k, u, ex, hn, ey, hv, hq⟩ => by
    subst ex ey
    obtain ⟨a, ha, rfl⟩ := r1
    have ev := kV_Dq r2
    subst ev
    obtain ⟨_, l, hl, hp⟩ := dk_at (b2.ob n _ a hn (l2.rho n a ha))
    rcases hp.val k with ⟨e1, e2⟩ | ⟨v4, d', e1, e2, hd⟩
    · rw [e2] at hv
      cases hv
    · rw [e2] at hv
      cases hv
      refine ⟨a, v4, rfl, ?_, hk _ _ w2 z2 b2 (l1.trans l2) hd hq⟩
      rw [← e1]
      exact DGet.k hl)
/-! {}, d[k] = v -/
theorem we_dnew (h : Q (.ob z.ob.length) ⟨z.sl, z.ob ++ [dkO []]⟩) : WE X (.Dict [] [] pos) z Q := fun c w σ kk bb hk =>
  tE_of pe_dnewK fun p hp => by
    refine hk (.ref p) (.ob z.ob.length) ⟨w.rho ++ [p], w.S, upd w.H p (.dK [])⟩ _ (bb.newG hp fun w' l hS hH => dk_ob hS hH .nil) le_obj ⟨p, ?_, rfl⟩ h
    show (w.rho ++ [p])[z.ob.length]? = some p
    rw [← bb.len, List.getElem?_append_right (Nat.le_refl _), Nat.sub_self]
    rfl
theorem w1_dput {P : Out → Prop} (hu : X.A.units + 1 < cLine) (h : WE X value z fun x z1 => WE X o z1 fun y z2 => WE X i z2 fun u z3 => ∃ n kvs k, y = .ob n ∧ z3.ob[n]? = some (dkO kvs) ∧ u = .sh (kD k) ∧ kvs.length < 100000 ∧ P (.nx ⟨z3.sl, z3.ob.set n (dkO (putG kvs k x))⟩))
    (hs : swapsWith value (some (.Subscript o i pos')) pos.line X.env = pure false := by rfl) : W1 X (.Assign [.Subscript o i pos'] value pos) z P := fun c w σ D bb hk =>
  tS_of (ps_dput hu peB peB peB hs) (h c w σ _ bb fun v x w1 z1 b1 l1 r1 h1 => h1 c w1 σ _ b1 fun v2 y w2 z2 b2 l2 r2 h2 => h2 c w2 σ _ b2 fun v3 u w3 z3 b3 l3 r3 ⟨n, kvs, k, ey, hn, eu, hz, hq⟩ => by
    subst ey eu
    obtain ⟨a, ha, rfl⟩ := r2
    have ev := kV_Dq r3
    subst ev
    have ha3 := l3.rho n a ha
    obtain ⟨hS, l, hl, hp⟩ := dk_at (b3.ob n _ a hn ha3)
    have hlen : l.length = kvs.length := Paired.length hp
    refine ⟨a, _, rfl, DPut.k hl (by rw [hlen]; exact Nat.lt_of_lt_of_le hz (by decide)), ?_⟩
    have r1' := (r1.mono l2).mono l3
    have b4 := b3.setG (oo := dkO (putG kvs k x)) hn ha3 hS (hu := .dK (putK l k v)) fun w' l' hS' hH' => dk_ob hS' hH' ((hp.put k r1').mono fun _ _ q => q.mono l')
    exact hk.nx ⟨w3.rho, w3.S, upd w3.H a (.dK (putK l k v))⟩ σ _ b4 (((l1.trans l2).trans l3).trans le_set) hq)
/-! sorted(d), its keys ints -/
theorem cd_sortedD (hc : X.calm = true) {n : Nat} {kvs : List (Key × Sl)} {ns : List Int} (hn : z.ob[n]? = some (dkO kvs)) (hk : kvs.map (·.1) = ns.map Sum.inl) (hd : ns.Nodup) (h64 : ns.length < 64) (h : Q (.sh (.list ((usort ns).map .int))) z) : CD X (.builtin "sorted") [.ob n] z Q := fun c w σ vs k b rr hkk => by
  obtain ⟨v, rfl, r⟩ := p1 rr
  obtain ⟨a, ha, rfl⟩ := r
  obtain ⟨_, l, hl, hp⟩ := dk_at (b.ob n _ a hn ha)
  refine cB_of (call_sortedDI hc) ⟨a, l, ns, rfl, .inl hl, by rw [hp.fst, hk], h64, fun ys p hperm hsort hp0 => ?_⟩
  have e : ys = usort ns := by
    refine usort_eq ?_ fun k => hperm.mem_iff
    have hnd : ys.Nodup := hperm.nodup_iff.mpr hd
    have := List.Pairwise.and hsort hnd
    exact this.imp fun q => by omega
  rw [e]
  exact newInts b hkk h p hp0
end
end Dl

namespace Dl
open PySem PySem.Spec L2
open PyProof.Rows hiding St

/-! ### dict(t), t a tuple of pairs -/
section
variable {X : Cy}
theorem pairs_ofV {pins : List (Addr × Obj)} {σ : St} {H : Hp} {s : Shared} (I : Inv X pins σ H s) : ∀ {ps : List Addr} {kvs : List (Key × V)}, Paired (fun p kv => SqT X.K H p [kV kv.1, kv.2]) ps kvs →
    ∃ (prs : List (Key × Value)) (raw : List (Value × Value)), KV kvs prs ∧ prs.length = ps.length ∧ raw.length = ps.length ∧ ∀ (j : Nat) (k v : Value), raw[j]? = some (k, v) → ∃ (b : Addr) (q : Key × Value), ps[j]? = some b ∧ s.heap.IsTuple b #[k, v] ∧ prs[j]? = some (q.1, v) ∧ keyIs q.1 k = true
  | _, _, .nil => ⟨[], [], .nil, rfl, rfl, fun j k v e => by simp at e⟩
  | _, _, .cons (a := p) (b := kv) h t => by
    obtain ⟨prs, raw, r, hl, hl2, hp⟩ := pairs_ofV I t
    obtain ⟨its, rv, ht, _⟩ := I.tuple h
    obtain ⟨u, y, ei, ru, ry⟩ := vals2 rv
    subst ei
    refine ⟨(kv.1, y) :: prs, (u, y) :: raw, .cons ⟨rfl, ry⟩ r, by rw [List.length_cons, List.length_cons, hl], by rw [List.length_cons, List.length_cons, hl2], fun j k v e => ?_⟩
    cases j with
    | zero =>
      have e' : (u, y) = (k, v) := Option.some.inj e
      cases e'
      obtain ⟨o, ho, hc, n, hd⟩ := ht
      exact ⟨p, (kv.1, y), rfl, ⟨o, ho, hc, n, hd⟩, rfl, kV_is (P := X.prog) (w := X.w) ru⟩
    | succ j =>
      obtain ⟨b, q, e1, e2, e3, e4⟩ := hp j k v (by simpa using e)
      exact ⟨b, q, by simpa using e1, e2, by simpa using e3, e4⟩
theorem PlT.plain {pins : List (Addr × Obj)} {σ : St} {H : Hp} {s : Shared} {a : Addr} {xs : List V} (I : Inv X pins σ H s) (h : PlT X.K H a xs) : ∃ its : List Value, Vals xs its ∧ PlainSeq "tuple" s.heap a its.toArray ∧ xs.length ≤ sizeLine := by
  rcases h with ⟨o, h, hd⟩ | ⟨o, its, n, h1, h2, h3, h4, h5, h6⟩
  · obtain ⟨hg, z, its, r, o', ho', hc, n, hdat⟩ := (show ObjOk X.prog X.w H s.heap a (.frz o (.tup xs)) from I.hok a _ h)
    rw [hg] at ho'
    cases ho'
    exact ⟨its, r, ⟨o, n, hg, hc, hd, hdat⟩, z⟩
  · refine ⟨its.toList, h6, ⟨o, n, I.kIn a o h1, h2, h3, by simpa using h4⟩, ?_⟩
    rw [h6.length]
    simpa using h5
theorem call_dictT (hcalm : X.calm = true) : CallR X (.type "dict") (fun xs H Q => ∃ (a : Addr) (ps : List Addr) (kvs : List (Key × V)), xs = [.ref a] ∧ PlT X.K H a (ps.map V.ref) ∧ Paired (fun p kv => SqT X.K H p [kV kv.1, kv.2]) ps kvs ∧
    ∀ p, H p = none → Q (.ref p) (upd H p (.dK (mergeK [] kvs)))) := by
  intro pins s σ H xs us Q I r q
  obtain ⟨a, ps, kvs, ex, hq, hp, q⟩ := q
  subst ex
  obtain ⟨u, eu, rx⟩ := vals1 r
  subst eu
  cases rx
  obtain ⟨its, rv, pl, hz⟩ := hq.plain I
  have ei := refs_at rv
  subst ei
  rw [List.length_map] at hz
  obtain ⟨prs, raw, rel, hl, hl2, hpr⟩ := pairs_ofV I hp
  have hraw : PairItems s.heap (ps.map Value.ref).toArray (fun j => ps.getD j 0) raw := by
    refine ⟨by simp [hl2], fun j k v e => ?_⟩
    obtain ⟨b, q', e1, e2, _, _⟩ := hpr j k v e
    have hb : ps.getD j 0 = b := by simp [List.getD, e1]
    show (ps.map Value.ref).toArray[j]? = some (.ref (ps.getD j 0)) ∧ PairAt s.heap (ps.getD j 0) k v
    rw [hb]
    exact ⟨by simp [e1], .inl e2⟩
  refine PySem.call_dict_pairs (knd := mixKind X.prog X.w) (kvs := prs) (PairArg.tuple a _ _ raw) (I.ok.hd hcalm) ⟨pl, hraw⟩ ⟨by rw [hl, hl2], fun i key v hr => ?_⟩ (by rw [hl2]; exact hz) fun h' tk hd' k => ?_
  · obtain ⟨b, q', _, _, e3, e4⟩ := hpr i key v hr
    exact ⟨q'.1, e3, e4⟩
  · have hm : (s.heap.objs.size == sysModules) = false := beq_eq_false_iff_ne.mpr (Nat.ne_of_gt I.big)
    have hlen : (mergeK [] kvs).length ≤ sizeLine := by
      refine Nat.le_trans (length_mergeK kvs []) ?_
      rw [List.length_nil, Nat.zero_add, rel.length, hl]
      exact hz
    exact ⟨.ref s.heap.objs.size, upd H s.heap.objs.size (.dK (mergeK [] kvs)), I.laid (t' := tk) (fun b o e => k b o (by simp) e) (Nat.le_refl _) (show ObjOk X.prog X.w _ _ _ (.dK (mergeK [] kvs)) from ⟨hlen, hm, merged [] prs, KV.merge rel .nil, hd'⟩), rfl, q _ (I.hok.fresh (Nat.le_refl _))⟩
end
section
variable {κ β : Type} [DecidableEq κ] {F : V → β → Prop}
theorem PKV.merge : ∀ {more : List (Key × V)} {rs : List (Key × β)} {l : List (Key × V)} {m : List (Key × β)}, PKV F more rs → PKV F l m → PKV F (mergeK l more) (mergeG m rs)
  | _, _, _, _, .nil, h => h
  | _, _, _, _, .cons (a := p) (b := q) hq t, h => by
    show PKV F (mergeK (putK _ p.1 p.2) _) (mergeG (putG _ q.1 q.2) _)
    refine PKV.merge t ?_
    rw [hq.1]
    exact h.put q.1 hq.2
end
def pairD (q : Key × PyData) : PyData := .tuple [kD q.1, q.2]
theorem pairs_dq {K : PySem.W.Frag} {H : Hp} : ∀ {es : List (Key × PyData)} {vs : List V}, DqAll K H vs (es.map pairD) → ∃ (ps : List Addr) (kvs : List (Key × V)), vs = ps.map V.ref ∧ Paired (fun p kv => SqT K H p [kV kv.1, kv.2]) ps kvs ∧ PKV (Dq K H) kvs es
  | [], _, .nil => ⟨[], [], rfl, .nil, .nil⟩
  | e :: es, _, .cons h t => by
    obtain ⟨ps, kvs, e1, h1, h2⟩ := pairs_dq t
    obtain ⟨a, xs, rfl, hs, hd⟩ := Dp_tupI h
    cases hd with
    | cons q1 t1 => cases t1 with
      | cons q2 t2 =>
        cases t2
        have ev := kV_Dq q1
        subst ev
        rename_i v2
        exact ⟨a :: ps, (e.1, v2) :: kvs, by rw [e1]; rfl, .cons hs h1, .cons ⟨rfl, q2⟩ h2⟩
section
variable {X : Cy} {z : Z} {Q : Sl → Z → Prop}
theorem new_dicF {K : PySem.W.Frag} {c : Ct} {w : Wd} {σ : St} {k : VK} {l : List (Key × V)} {es : List (Key × PyData)} (bb : B K c w σ z) (hv : PKV (Dq K w.S) l es) (hk : Cont K c w σ Q k) (h : Q (.sh (dicD es)) z) : ∀ p, w.H p = none → k (.ref p) (upd w.H p (.dK l)) := fun p hp => by
  have le : w.Le ⟨w.rho, upd w.S p (.dK l), upd w.H p (.dK l)⟩ := le_new (bb.freshS hp)
  exact hk (.ref p) (.sh (dicD es)) ⟨w.rho, upd w.S p (.dK l), upd w.H p (.dK l)⟩ z (bb.newS hp) le (dic_Dq upd_same (hv.mono fun _ _ q => Dp_mono le.st q)) h
/-- dict(t), dict(xs): data -/
theorem cd_dictT (hc : X.calm = true) {ds : List PyData} {es : List (Key × PyData)} (e : ds = es.map pairD) (h : Q (.sh (dicD (mergeG [] es))) z) : CD X (.type "dict") [.sh (.tuple ds)] z Q := fun c w σ vs k b rr hkk => by
  subst e
  obtain ⟨v, rfl, r⟩ := p1 rr
  obtain ⟨p, xs, rfl, h1, s1⟩ := Dp_tupP r
  obtain ⟨ps, kvs, e1, h2, h3⟩ := pairs_dq s1
  subst e1
  have h2' : Paired (fun p kv => SqT X.K w.H p [kV kv.1, kv.2]) ps kvs := Paired.mono (fun _ _ q => Same.tup b.same q) h2
  exact cB_of (call_dictT hc) ⟨p, ps, kvs, rfl, Same.pl b.same h1, h2', new_dicF b (PKV.merge h3 .nil) hkk h⟩
theorem cd_dictL (hc : X.calm = true) {ds : List PyData} {es : List (Key × PyData)} (e : ds = es.map pairD) (h : Q (.sh (dicD (mergeG [] es))) z) : CD X (.type "dict") [.sh (.list ds)] z Q := fun c w σ vs k b rr hkk => by
  subst e
  obtain ⟨v, rfl, r⟩ := p1 rr
  obtain ⟨p, xs, rfl, h1, s1⟩ := Dp_lstI r
  obtain ⟨ps, kvs, e1, h2, h3⟩ := pairs_dq s1
  subst e1
  have h2' : Paired (fun p kv => SqT X.K w.H p [kV kv.1, kv.2]) ps kvs := Paired.mono (fun _ _ q => Same.tup b.same q) h2
  exact cB_of (call_dictP hc) ⟨p, ps, kvs, rfl, .inl (Same.rd b.same h1), h2', new_dicF b (PKV.merge h3 .nil) hkk h⟩
end
end Dl

namespace Dl
open PySem PySem.Spec L2
open PyProof.Rows hiding St

section
variable {X : Cy} {z : Z} {Q : Sl → Z → Prop}
/-! ### x is True, of truths -/
theorem bool_beq (a b : Bool) : (Value.bool a == Value.bool b) = decide (a = b) := by cases a <;> cases b <;> decide +kernel
theorem op_isB : OpR X (compareOp .Is) (fun x y H Q => ∃ a b, x = .bl a ∧ y = .bl b ∧ Q (.bl (decide (a = b))) H) := by
  intro pins s σ H x y v u Q I rx ry h
  obtain ⟨a, b, rfl, rfl, q⟩ := h
  cases (show v = Value.bool a from rx)
  cases (show u = Value.bool b from ry)
  exact wpAny_is_plain rfl (fin_bl I q (bool_beq a b).symm)
theorem op_isNotB : OpR X (compareOp .IsNot) (fun x y H Q => ∃ a b, x = .bl a ∧ y = .bl b ∧ Q (.bl (!decide (a = b))) H) := by
  intro pins s σ H x y v u Q I rx ry h
  obtain ⟨a, b, rfl, rfl, q⟩ := h
  cases (show v = Value.bool a from rx)
  cases (show u = Value.bool b from ry)
  exact wpAny_isNot_plain rfl (fin_bl I q (by rw [bool_beq]))
theorem rd_isB {a b : Bool} (h : Q (.sh (.bool (decide (a = b)))) z) : RD X (compareOp .Is) (.sh (.bool a)) (.sh (.bool b)) z Q := fun c w σ v u k bb r1 r2 hk => by
  cases Dp_bl r1
  cases Dp_bl r2
  exact rB_of op_isB ⟨a, b, rfl, rfl, hk _ _ w z bb (.refl w) (vB _) h⟩
theorem rd_isNotB {a b : Bool} (h : Q (.sh (.bool (!decide (a = b)))) z) : RD X (compareOp .IsNot) (.sh (.bool a)) (.sh (.bool b)) z Q := fun c w σ v u k bb r1 r2 hk => by
  cases Dp_bl r1
  cases Dp_bl r2
  exact rB_of op_isNotB ⟨a, b, rfl, rfl, hk _ _ w z bb (.refl w) (vB _) h⟩
/-! ### t[::-1] of a tuple -/
theorem pick_rev {α : Type} (xs : List α) : pickC xs ((xs.length : Int) - 1) (-1) xs.length = xs.reverse := by
  cases xs with
  | nil => rfl
  | cons x xs =>
    have h := pick_back x xs
    unfold pickC at h ⊢
    rw [List.length_cons, List.range_succ, List.filterMap_append, h, List.reverse_cons]
    congr 1
    have e : (((xs.length + 1 : Nat) : Int) - 1 + ((xs.length : Nat) : Int) * (-1)).toNat = 0 := by omega
    simp only [List.filterMap_cons, List.filterMap_nil]
    rw [e]
    rfl
theorem s3_revT {ds : List PyData} (hl : ds.length < 100000) (h : Q (.sh (.tuple ds.reverse)) z) : S3 X (.sh (.tuple ds)) none none (-1) z Q := fun c w σ v k b r1 hk => by
  obtain ⟨p, xs, rfl, h1, s1⟩ := Dp_tupI r1
  intro pins s σ2 v vl vu vc sl I rx hs pl pu pc
  cases rx
  obtain ⟨its, r, ht, hz⟩ := I.tuple (Same.tup b.same h1)
  have hxl : xs.length = ds.length := DpAll_len s1
  have hil : its.toArray.size = ds.length := by rw [List.size_toArray, ← r.length]; exact hxl
  have hil2 : its.length = ds.length := by rw [← r.length]; exact hxl
  refine ⟨"tuple", _, PyProof.Rows.slot_tuple_getitem.lookup, ht.typeIs, ?_⟩
  have ea : Builtin.Slice.sliceAdjust none none (-1) (its.toArray.size : Int) = ((its.toArray.size : Int) - 1, -1) := by
    unfold Builtin.Slice.sliceAdjust
    rw [hil]
    simp
  have en : Builtin.Slice.slicePlaces ((its.toArray.size : Int) - 1) (-1) (-1) = ds.length := by
    unfold Builtin.Slice.slicePlaces
    rw [hil]
    by_cases h0 : ds.length = 0
    · rw [h0]
      decide
    · simp only [show ¬ (-1 : Int) > 0 by decide, if_false, show ((ds.length : Nat) : Int) - 1 > -1 by omega, if_true, show (- -1 : Int) = 1 by decide, Int.ediv_one]
      omega
  refine getItem_tuple_c (a := (its.toArray.size : Int) - 1) (n := ds.length) ht hs pl pu pc (by decide) (by decide) (by rw [ea]) (by rw [ea]; exact en) (Nat.le_of_lt (Nat.lt_of_lt_of_le hl (by decide))) ?_
  have e1 : pickC its.toArray.toList ((its.toArray.size : Int) - 1) (-1) ds.length = its.reverse := by
    rw [hil, ← hil2]
    exact pick_rev its
  rw [e1]
  have hfin := new_tup (Q := Q) b (paired_DqAll (paired_rev (DqAll_paired s1))) hk h _ { cls := .type "tuple", data := .seq its.reverse.toArray } (I.hok.fresh (Nat.le_refl _)) rfl
  refine ⟨.ref s.heap.objs.size, _, laidP I (paired_rev (F := RelV) r) (by rw [List.length_reverse]; exact hz), rfl, hfin⟩
end
end Dl

namespace Dl
open PySem PySem.Spec L2
open PyProof.Rows hiding St

section
variable {X : Cy} {z : Z} {Q : Sl → Z → Prop}
/-! ### d[k] as a subscript -/
theorem ix_dict (hu : X.A.units + 1 < cLine) : IxR X (fun x y H Q => ∃ a v, x = .ref a ∧ DGet H a y (some v) ∧ Q v H) := by
  intro value slice pins s σ H x y v u Q I rx ry h hs
  obtain ⟨a, v', rfl, g, q⟩ := h
  cases rx
  have hT := dict_typeIs I g
  unfold subscriptTail
  refine wpAny_bind ?_
  rw [getitemInPython_of_ne hT.not_modules]
  refine wpAny_bind (wpAny_specialOf hT PySem.F.slot_dict_getitem.lookup ?_)
  have h2 : wpAny (model X.prog X.w) X.A (getItem (.ref a) u) (EP X pins σ Q) X.xe s := d_getItem hu I g ry fun w' s3 I3 rw' => ⟨v', H, I3, rw', q⟩
  have fin : wpAny (model X.prog X.w) X.A (subscripted slice false (.ref a) u) (fun r s₃ => wpAny (model X.prog X.w) X.A (letTemporaryGo value (.ref a) r >>= fun _ => pure r) (EP X pins σ Q) X.xe s₃) X.xe s := by
    rw [hs]
    exact wpAny_operating (wpAny_mono h2 (fun r s₃ h₃ => wpAny_bind (wpAny_letTemporaryGo (wpAny_pure h₃))) fun _ _ x => x)
  first
    | exact wpAny_pure (wpAny_bind fin)
    | exact wpAny_bind (wpAny_pure (wpAny_bind fin))
    | exact wpAny_bind fin
theorem id_DO (hu : X.A.units + 1 < cLine) {n : Nat} {kvs : List (Key × Sl)} {k : Key} {d : PyData} {u : Sl} (hd : d = kD k) (hn : z.ob[n]? = some (dkO kvs)) (hv : valG kvs k = some u) (h : Q u z) : ID X (.ob n) (.sh d) z Q := fun c w σ v v2 kk b r1 r2 hk => by
  subst hd
  obtain ⟨a, ha, rfl⟩ := r1
  have ev := kV_Dq r2
  subst ev
  obtain ⟨_, l, hl, hp⟩ := dk_at (b.ob n _ a hn ha)
  rcases hp.val k with ⟨e1, e2⟩ | ⟨v4, d', e1, e2, hd⟩
  · rw [e2] at hv
    cases hv
  · rw [e2] at hv
    cases hv
    refine ixB_of (ix_dict hu) ⟨a, v4, rfl, ?_, hk _ _ w z b (.refl w) hd h⟩
    rw [← e1]
    exact DGet.k hl
theorem id_DF (hu : X.A.units + 1 < cLine) {es : List (Key × PyData)} {k : Key} {d e : PyData} (hd : d = kD k) (hv : valG es k = some e) (h : Q (.sh e) z) : ID X (.sh (dicD es)) (.sh d) z Q := fun c w σ v v2 kk b r1 r2 hk => by
  subst hd
  obtain ⟨a, l, rfl, ha, hp⟩ := Dq_dic r1
  have ev := kV_Dq r2
  subst ev
  rcases hp.val k with ⟨e1, e2⟩ | ⟨v4, d', e1, e2, hd⟩
  · rw [e2] at hv
    cases hv
  · rw [e2] at hv
    cases hv
    refine ixB_of (ix_dict hu) ⟨a, v4, rfl, ?_, hk _ _ w z b (.refl w) (vsh hd) h⟩
    rw [← e1]
    exact DGet.k (b.same _ _ ha)
end
/-! ### laws of look-ups -/
section
variable {κ β : Type} [DecidableEq κ]
theorem valG_putG (kvs : List (κ × β)) (k j : κ) (v : β) : valG (putG kvs k v) j = if k = j then some v else valG kvs j := by
  unfold putG
  split
  · rename_i h
    induction kvs with
    | nil => simp at h
    | cons p l ih =>
      rw [List.map_cons]
      by_cases e : p.1 = k
      · rw [if_pos e]
        by_cases ej : k = j
        · rw [if_pos ej]
          simp [valG, List.find?_cons, e, ej]
        · rw [if_neg ej]
          have h1 : valG ((p.1, v) :: l.map fun kv => if kv.1 = k then (kv.1, v) else kv) j = valG (l.map fun kv => if kv.1 = k then (kv.1, v) else kv) j := by simp [valG, List.find?_cons, e, ej]
          have h2 : valG (p :: l) j = valG l j := by simp [valG, List.find?_cons, e, ej]
          rw [h1, h2]
          by_cases ha : (l.any fun kv => decide (kv.1 = k)) = true
          · rw [ih ha, if_neg ej]
          · have : (l.map fun kv => if kv.1 = k then (kv.1, v) else kv) = l := by
              have hn : ∀ q ∈ l, ¬ q.1 = k := fun q hq eq => ha (List.any_eq_true.mpr ⟨q, hq, by simp [eq]⟩)
              exact (List.map_congr_left (g := fun q => q) (fun q hq => by rw [if_neg (hn q hq)])).trans (List.map_id' l)
            rw [this]
      · have h' : (l.any fun kv => decide (kv.1 = k)) = true := by
          rw [List.any_cons] at h
          simpa [e] using h
        rw [if_neg e]
        by_cases ej : p.1 = j
        · have hkj : ¬ k = j := fun q => e (ej.trans q.symm)
          rw [if_neg hkj]
          simp [valG, List.find?_cons, ej]
        · have h1 : valG (p :: l.map fun kv => if kv.1 = k then (kv.1, v) else kv) j = valG (l.map fun kv => if kv.1 = k then (kv.1, v) else kv) j := by simp [valG, List.find?_cons, ej]
          have h2 : valG (p :: l) j = valG l j := by simp [valG, List.find?_cons, ej]
          rw [h1, h2, ih h']
  · rename_i h
    have hn : ∀ q ∈ kvs, ¬ q.1 = k := fun q hq eq => h (List.any_eq_true.mpr ⟨q, hq, by simp [eq]⟩)
    unfold valG
    rw [List.find?_append]
    by_cases ej : k = j
    · subst ej
      have : kvs.find? (fun kv => decide (kv.1 = k)) = none := List.find?_eq_none.mpr fun q hq => by simpa using hn q hq
      rw [this]
      simp
    · rw [if_neg ej]
      cases kvs.find? (fun kv => decide (kv.1 = j)) <;> simp [ej]
theorem keys_putG (kvs : List (κ × β)) (k : κ) (v : β) : (putG kvs k v).map (·.1) = if k ∈ kvs.map (·.1) then kvs.map (·.1) else kvs.map (·.1) ++ [k] := by
  unfold putG
  by_cases h : k ∈ kvs.map (·.1)
  · have h2 : (kvs.any fun kv => decide (kv.1 = k)) = true := by
      obtain ⟨q, hq, e⟩ := List.mem_map.mp h
      exact List.any_eq_true.mpr ⟨q, hq, by simp [e]⟩
    rw [if_pos h2, if_pos h, List.map_map]
    refine List.map_congr_left fun q _ => ?_
    show (if q.1 = k then (q.1, v) else q).1 = q.1
    split <;> rfl
  · have h2 : ¬ (kvs.any fun kv => decide (kv.1 = k)) = true := fun q => by
      obtain ⟨r, hr, e⟩ := List.any_eq_true.mp q
      exact h (List.mem_map.mpr ⟨r, hr, by simpa using e⟩)
    rw [if_neg h2, if_neg h, List.map_append]
    rfl
theorem nodup_putG {kvs : List (κ × β)} (h : (kvs.map (·.1)).Nodup) (k : κ) (v : β) : ((putG kvs k v).map (·.1)).Nodup := by
  rw [keys_putG]
  split
  · exact h
  · rename_i hk
    exact List.nodup_append.mpr ⟨h, by simp, fun a ha b hb e => by
      rw [List.mem_singleton.mp hb] at e
      exact hk (e ▸ ha)⟩
theorem putG_new {kvs : List (κ × β)} {k : κ} (h : k ∉ kvs.map (·.1)) (v : β) : putG kvs k v = kvs ++ [(k, v)] := by
  unfold putG
  rw [if_neg]
  intro q
  obtain ⟨r, hr, e⟩ := List.any_eq_true.mp q
  exact h (List.mem_map.mpr ⟨r, hr, by simpa using e⟩)
theorem mergeG_nodup : ∀ {more kvs : List (κ × β)}, ((kvs ++ more).map (·.1)).Nodup → mergeG kvs more = kvs ++ more
  | [], kvs, _ => by simp [mergeG]
  | p :: more, kvs, h => by
    show mergeG (putG kvs p.1 p.2) more = _
    have h1 : p.1 ∉ kvs.map (·.1) := fun q => by
      rw [List.map_append, List.map_cons] at h
      exact (List.nodup_append.mp h).2.2 _ q _ List.mem_cons_self rfl
    rw [putG_new h1, mergeG_nodup (by simpa using h)]
    simp
theorem mem_putG {kvs : List (κ × β)} {k : κ} {v : β} {q : κ × β} (h : q ∈ putG kvs k v) : q = (k, v) ∨ q ∈ kvs := by
  unfold putG at h
  split at h
  · obtain ⟨r, hr, e⟩ := List.mem_map.mp h
    split at e
    · rename_i hk
      left
      rw [← e, hk]
    · right
      rw [← e]
      exact hr
  · rcases List.mem_append.mp h with h | h
    · exact .inr h
    · exact .inl (List.mem_singleton.mp h)
theorem len_putG (kvs : List (κ × β)) (k : κ) (v : β) : (putG kvs k v).length ≤ kvs.length + 1 := by
  unfold putG
  split <;> simp
theorem valG_mem : ∀ {kvs : List (κ × β)} {k : κ} {v : β}, (kvs.map (·.1)).Nodup → (k, v) ∈ kvs → valG kvs k = some v
  | p :: l, k, v, h, hm => by
    rw [List.map_cons, List.nodup_cons] at h
    by_cases e : p.1 = k
    · rcases List.mem_cons.mp hm with hm | hm
      · rw [← hm]
        simp [valG, List.find?_cons]
      · exact absurd (List.mem_map.mpr ⟨_, hm, e.symm⟩) h.1
    · have h2 : valG (p :: l) k = valG l k := by simp [valG, List.find?_cons, e]
      rw [h2]
      rcases List.mem_cons.mp hm with hm | hm
      · rw [← hm] at e
        exact absurd rfl e
      · exact valG_mem h.2 hm
end
end Dl

namespace Dl
open PySem PySem.Spec L2
open PyProof.Rows hiding St

/-! ### comprehensions by which the store is changed -/
section
variable {X : Cy} {tg elt t : Expr} {scope : Scope} {vs : List Nat} {g : TG} {Q : Sl → Z → Prop} {ys : List Sl} {G : Z → Prop} {z1 : Z}
theorem lcd_st (I : Nat → List PyData → List OO → Prop) (hlen : ys.length ≤ 100000) (h0 : I 0 [] z1.ob) (hG : ∀ i acc om, I i acc om → G ⟨wipeZ z1.sl vs, om⟩)
    (h : ∀ (i : Nat) (y : Sl) (acc : List PyData) (om : List OO), ys[i]? = some y → I i acc om → acc.length = i → GD X.K vs g y ⟨wipeZ z1.sl vs, om⟩ fun z2 => ∀ s H C cl fp, WE (Blk X scope s H C cl fp) elt z2 fun x z4 => ∃ d, x = .sh d ∧ I (i + 1) (acc ++ [d]) z4.ob)
    (hQ : ∀ acc om, I ys.length acc om → acc.length = ys.length → Q (.sh (.list acc)) ⟨z1.sl, om⟩) : LcD X tg elt [] scope vs g (FrzK Q) ys G z1 := by
  refine ⟨hlen, fun i acc om => ∃ ds : List PyData, acc = ds.map .sh ∧ ds.length = i ∧ I i ds om, ⟨[], rfl, rfl, h0⟩, ?_, ?_, ?_⟩
  · rintro i acc om ⟨ds, rfl, _, hI⟩
    exact hG i ds om hI
  · rintro i y acc om hy ⟨ds, rfl, hl, hI⟩ _
    intro c w σ v k bb r hk
    refine h i y ds om hy hI hl c w σ v k bb r fun w' σ' z' b' l hw hq => hk w' σ' z' b' l hw fun s H C cl fp => ?_
    refine ⟨fun _ s2 H2 C2 cl2 fp2 => (hq s2 H2 C2 cl2 fp2).mono fun x z4 ⟨d, e1, e2⟩ => ⟨ds ++ [d], by rw [e1, List.map_append]; rfl, by simp [hl], e2⟩, fun h => by cases h⟩
  · rintro acc om ⟨ds, rfl, hl, hI⟩ _
    exact ⟨ds, allSh_map ds, hQ ds om hI hl⟩
end
end Dl

namespace Dl
open PySem PySem.Spec L2
open PyProof.Rows hiding St

/-! ### texts -/
theorem strs_eq {K : PySem.W.Frag} {H : Hp} : ∀ {vs : List V} {ys : List Str}, DqAll K H vs (ys.map .str) → vs = ys.map .str
  | _, [], .nil => rfl
  | _, _ :: _, .cons q t => by
    rw [List.map_cons, strs_eq t, Dp_str q]
section
variable {X : Cy} {z : Z} {Q : Sl → Z → Prop} {o e : Expr} {apos pos p : Pos}
/-- sep.join(list of texts) -/
theorem we_join (h : WE X o z fun x z1 => ∃ a, x = .sh (.str a) ∧ WE X e z1 fun y z2 => ∃ ys : List Str, y = .sh (.list (ys.map .str)) ∧ (ys.map (·.length)).sum + ys.length * a.length ≤ 16777216 ∧ Q (.sh (.str (Txt.join a ys))) z2)
    (hs : starEach [e] X.env = [(false, eval e X.env)] := by rfl) (hbase : attributeBase o "join" X.env (eval o X.env) = eval o X.env := by rfl) (hline : (apos.endLine == pos.line) = true := by rfl) :
    WE X (.Call (.Attribute o "join" apos) [e] [] pos) z Q := fun c w σ k bb hk =>
  tE_of (pe_join peB peB hs hbase hline) (h c w σ _ bb fun v x w1 z1 b1 l1 r1 ⟨a, ex, h1⟩ => by
    subst ex
    cases Dp_str r1
    refine ⟨⟨a, rfl⟩, h1 c w1 σ _ b1 fun u y w2 z2 b2 l2 r2 ⟨ys, ey, hz, hq⟩ => ?_⟩
    subst ey
    obtain ⟨p, xs, rfl, hp, hd⟩ := Dp_lstI r2
    have e1 := strs_eq hd
    subst e1
    exact ⟨a, p, ys, rfl, rfl, .inl (.inl (Same.rd b2.same hp)), hz, hk _ _ w2 z2 b2 (l1.trans l2) (vS _) hq⟩)
theorem cd_strI {i : Int} (hi : i.natAbs.log2 < 1920) (h : Q (.sh (.str (toString i))) z) : CD X (.type "str") [.sh (.int i)] z Q := fun c w σ vs k b rr hk => by
  obtain ⟨v, rfl, r⟩ := p1 rr
  cases Dp_int r
  exact cB_of call_str_int ⟨i, rfl, hi, hk _ _ w z b (.refl w) (vS _) h⟩
/-- c in s, c one sign -/
theorem rd_inSg {c : Nat} {t : Str} (h : Q (.sh (.bool (decide (c ∈ t.cps.toList)))) z) : RD X (compareOp .In) (.sh (.str ⟨#[c]⟩)) (.sh (.str t)) z Q := fun c' w σ v u k b r1 r2 hk => by
  cases Dp_str r1
  cases Dp_str r2
  exact rB_of op_in_sign ⟨c, t, rfl, rfl, hk _ _ w z b (.refl w) (vB _) h⟩
end
section
variable {X : Cy} {tg iter e : Expr} {z : Z} {pos p tpos : Pos} {elts : List Expr} {kk : Nat} {R : List Sl → (Z → Prop) → Z → Prop}
def enumD (ds : List PyData) : List (List PyData) := ds.mapIdx fun i d => [.int (i : Nat), d]
theorem enumD_len (ds : List PyData) : (enumD ds).length = ds.length := by simp [enumD]
theorem enumD_get {ds : List PyData} {i : Nat} {q : List PyData} (h : (enumD ds)[i]? = some q) : ∃ d, ds[i]? = some d ∧ q = [.int (i : Nat), d] := by
  unfold enumD at h
  rw [List.getElem?_mapIdx] at h
  obtain ⟨d, h1, h2⟩ := Option.map_eq_some_iff.mp h
  exact ⟨d, h1, h2.symm⟩
theorem wi_enum (hm : X.mg "enumerate" = none) (h : WE X e z fun x z1 => ∃ ds, x = .sh (.list ds) ∧ R ((enumD ds).map .tp) (fun _ => True) z1) (hg : Gl X "enumerate" := by rfl) (hs : starEach [e] X.env = [(false, eval e X.env)] := by rfl) :
    WI X (.Tuple elts kk tpos) (.Call (.Name "enumerate" p) [e] [] pos) z R := fun c w σ k bb hk =>
  tI_of (pi_enum hg hm (pa_cons peB pa_nil hs) hs) (h c w σ _ bb fun v x w1 z1 b1 l1 r1 ⟨ds, ex, hR⟩ => by
    subst ex
    obtain ⟨a, xs, rfl, h1, s1⟩ := Dp_lstI r1
    have e1 := DpAll_len s1
    have hlen : ((enumD ds).map Sl.tp).length = ds.length := by rw [List.length_map, enumD_len]
    refine ⟨a, xs, rfl, .inl (Same.rd b1.same h1), hk _ _ _ w1 z1 b1 l1 ⟨fun i c' w3 σ3 z3 hi b3 l3 _ => ?_, fun c' w3 σ3 z3 b3 l3 _ => ?_, fun i c' w3 σ3 z3 x H' y hy b3 l3 _ hyl => ?_⟩ hR⟩
    · rw [hlen] at hi
      exact ⟨xs, xs[i]'(by omega), .inl (Same.rd b3.same (Same.rd l3.st h1)), List.getElem?_eq_getElem _⟩
    · rw [hlen]
      exact ⟨xs, .inl (Same.rd b3.same (Same.rd l3.st h1)), by omega⟩
    · obtain ⟨T, x1, rfl, hT, rfl, f1⟩ := hyl
      rw [List.getElem?_map] at hy
      obtain ⟨q, hq, rfl⟩ := Option.map_eq_some_iff.mp hy
      obtain ⟨d, g1, rfl⟩ := enumD_get hq
      obtain ⟨v1, q1, t1⟩ := paired_get (DqAll_paired s1) g1
      have e3 := f1 xs (.inl (Same.rd b3.same (Same.rd l3.st h1)))
      rw [q1] at e3
      cases e3
      exact pair_new b3 hT (.int _) (Dp_mono l3.st t1))
/-- for c in a text -/
def signsD (t : Str) : List Sl := t.cps.toList.map fun c => .sh (.str ⟨#[c]⟩)
theorem wi_str (h : WE X iter z fun x z1 => ∃ t, x = .sh (.str t) ∧ R (signsD t) (fun _ => True) z1) : WI X tg iter z R := fun c w σ k bb hk =>
  tI_of (pi_str peB) (h c w σ _ bb fun v x w1 z1 b1 l1 r1 ⟨t, ex, hR⟩ => by
    subst ex
    cases Dp_str r1
    have hl : (signsD t).length = t.cps.size := by simp [signsD]
    refine ⟨t, rfl, hk _ _ _ w1 z1 b1 l1 ⟨fun i c' w3 σ3 z3 hi b3 l3 _ => ?_, fun c' w3 σ3 z3 b3 l3 _ => ?_, fun i c' w3 σ3 z3 x H' y hy b3 l3 _ hyl => ?_⟩ hR⟩
    · rw [hl] at hi
      exact hi
    · rw [hl]
      exact Nat.le_refl _
    · obtain ⟨e, cc, hc, rfl⟩ := hyl
      unfold signsD at hy
      rw [List.getElem?_map] at hy
      obtain ⟨c2, h2, rfl⟩ := Option.map_eq_some_iff.mp hy
      rw [Array.getElem?_toList, hc] at h2
      cases h2
      exact ⟨w3, e.symm, b3, .refl w3, vS _⟩)
end
end Dl

namespace Dl
open PySem PySem.Spec L2 PpSet
open PyProof.Rows hiding St

/-! ### sorted({x for .. for ..}) of ints -/
section
variable {X : Cy} {tg iter elt tg1 iter1 : Expr} {scope : Scope} {z : Z} {pos pos' p : Pos} {own : List (Str × Nat)} {vs1 : List Nat} {g g1 : TG} {Q : Sl → Z → Prop}
def Sc2D (X : Cy) (elt tg1 iter1 : Expr) (scope : Scope) (vs vs1 : List Nat) (g g1 : TG) (Q : List Int → Z → Prop) : List Sl → (Z → Prop) → Z → Prop := fun ys G z1 => G ⟨wipeZ z1.sl vs, z1.ob⟩ ∧ ∃ fs : List (List Int), ys.length = fs.length ∧ fs.flatten.length < 3000 ∧
  (∀ (i : Nat) (y : Sl) (ns : List Int), ys[i]? = some y → fs[i]? = some ns → GD X.K vs g y ⟨wipeZ z1.sl vs, z1.ob⟩ fun z2 => ∀ s H C cl fp, WI (Blk X scope s H C cl fp) tg1 iter1 z2 fun ys1 G1 z3 => z3 = z2 ∧ ys1 = ns.map (fun n => .sh (.int n)) ∧ G1 ⟨wipeZ z2.sl vs1, z2.ob⟩ ∧ z2.ob = z1.ob ∧
    ∀ n ∈ ns, GD X.K vs1 g1 (.sh (.int n)) ⟨wipeZ z2.sl vs1, z2.ob⟩ fun z4 => ∀ s H C cl fp, WE (Blk X scope s H C cl fp) elt z4 fun x z5 => x = .sh (.int n) ∧ z5.ob = z1.ob) ∧
  (usort fs.flatten).length < 64 ∧ Q (usort fs.flatten) z1
theorem sc2_ok {P : List Int → Z → Prop} {c : CtX X} {w : Wd} {σ : St} {k : VK} (bb : B X.K c w σ z) (h : WI X tg iter z (Sc2D X elt tg1 iter1 scope (own.map (·.2)) vs1 g g1 P))
    (hk : ∀ ms z1 w1, B X.K c w1 σ z1 → w.Le w1 → P ms z1 → ∀ q, w1.H q = none → k (.ref q) (upd w1.H q (.lst (ms.map V.int)))) :
    tSc2 X.w (tI X tg iter) g tYes (fun σ H R => ∀ s H0 C cl fp, tI (Blk X scope s H0 C cl fp) tg1 iter1 σ H R) g1 tYes (fun σ H Q => ∀ s H0 C cl fp, tE (Blk X scope s H0 C cl fp) elt σ H Q) (own.map (·.2)) vs1 σ w.H (fun x H1 => rSortedSet X.w [x] H1 k) := by
  refine h c w σ _ bb fun J ys G w1 z1 b1 l1 dw ⟨hG, fs, hl, hft, hs, h64, hP⟩ D hD => ?_
  have as1 : Aside c w1 D := b1.asideNew hD
  refine ⟨fun i m H' => m = ys.length - i ∧ i ≤ ys.length ∧ ∃ w' S n, B X.K c w' σ z1 ∧ w1.Le w' ∧ w'.H = H' ∧ Aside c w' D ∧ w'.H D = some (SetO X.w D S n) ∧ n = (usort (fs.take i).flatten).length ∧ ∀ k, S k = true ↔ k ∈ (fs.take i).flatten,
    ⟨ys.length, by simp, Nat.zero_le _, ⟨w1.rho, w1.S, upd w1.H D (SetO X.w D (fun _ => false) 0)⟩, fun _ => false, 0, b1.aside as1, le_aside, rfl, ⟨as1.nr, as1.nS, as1.nc⟩, upd_same, rfl, fun k => by simp⟩, ?_⟩
  rintro i m H2 ⟨rfl, hi, w2, S, n, b2, l2, rfl, as2, hD2, hn, hS⟩
  have bw := b2.wipe (own.map (·.2))
  by_cases hlt : i < ys.length
  · refine .inr ⟨dw.goes i c w2 _ _ hlt bw l2 hG, fun H' => ∃ w' S n, B X.K c w' σ z1 ∧ w1.Le w' ∧ w'.H = H' ∧ Aside c w' D ∧ w'.H D = some (SetO X.w D S n) ∧ n = (usort (fs.take (i + 1)).flatten).length ∧ ∀ k, S k = true ↔ k ∈ (fs.take (i + 1)).flatten,
      fun H' q => ⟨ys.length - (i + 1), by omega, rfl, hlt, q⟩, fun x H' y => ?_⟩
    have hy : ys[i]? = some ys[i] := List.getElem?_eq_getElem hlt
    have hif : i < fs.length := by omega
    obtain ⟨ns, hns⟩ : ∃ ns, ns = fs[i] := ⟨_, rfl⟩
    have hf : fs[i]? = some ns := by rw [hns]; exact List.getElem?_eq_getElem hif
    have efl : (fs.take (i + 1)).flatten = (fs.take i).flatten ++ ns := by
      rw [List.take_add_one, hf, List.flatten_append]
      simp
    have hlen : (fs.take i).flatten.length + ns.length < 3000 := by
      have h1 : ((fs.take (i + 1)).flatten ++ (fs.drop (i + 1)).flatten) = fs.flatten := by rw [← List.flatten_append, List.take_append_drop]
      have h2 := congrArg List.length h1
      rw [efl, List.length_append, List.length_append] at h2
      omega
    obtain ⟨w3, rfl, b3, l3, r3⟩ := dw.yields i w2.ct w2 _ _ x H' ys[i] hy bw.self l2 hG y
    refine hs i ys[i] ns hy hf w2.ct w3 _ x _ b3 r3 fun w4 σ4 z4 b4 l4 hwp hw => ⟨hwp.trans (wipe_wipe σ _), ?_⟩
    simp only [tYes, if_true]
    intro s0 H0 C cl fp
    refine hw s0 H0 C cl fp (.of _ (fun _ _ _ h => h) w2.ct) w4 σ4 _ b4 fun J1 ys1 G1 w5 z5 b5 l5 dw1 ⟨e5, ey1, hG1, eob, hin⟩ => ?_
    subst e5 ey1
    have b5 : B X.K w2.ct w5 σ4 z5 := b5
    have l25 : w2.Le w5 := (l3.trans l4).trans l5
    have b5c : B X.K c w5 σ z1 := by
      have := b2.slots (b2.comp b5) l25
      rw [eob] at this
      exact this
    obtain ⟨as5, hD5⟩ := as2.on b2 hD2 b5
    refine ⟨fun j k H' => k = ns.length - j ∧ j ≤ ns.length ∧ ∃ w' S n, B X.K c w' σ z1 ∧ w5.Le w' ∧ w'.H = H' ∧ Aside c w' D ∧ w'.H D = some (SetO X.w D S n) ∧ n = (usort ((fs.take i).flatten ++ ns.take j)).length ∧ ∀ k, S k = true ↔ k ∈ (fs.take i).flatten ++ ns.take j,
      ⟨ns.length, by simp, Nat.zero_le _, w5, S, n, b5c, .refl w5, rfl, as5, hD5, by rw [List.take_zero, List.append_nil]; exact hn, fun k => by rw [List.take_zero, List.append_nil]; exact hS k⟩, ?_⟩
    rintro j k6 H6 ⟨rfl, hj, w6, S6, n6, b6, l6, rfl, as6, hD6, hn6, hS6⟩
    have b6' : B X.K c w6 σ4 z5 := by
      have := b5.slots b6 l6
      rw [← eob] at this
      exact this
    have bw6 := b6'.wipe vs1
    have hly : (ns.map (fun n => Sl.sh (.int n))).length = ns.length := List.length_map _
    by_cases hjl : j < ns.length
    · refine .inr ⟨dw1.goes j c w6 _ _ (by rw [hly]; exact hjl) bw6 l6 hG1, fun H' => ∃ w' S n, B X.K c w' σ z1 ∧ w5.Le w' ∧ w'.H = H' ∧ Aside c w' D ∧ w'.H D = some (SetO X.w D S n) ∧ n = (usort ((fs.take i).flatten ++ ns.take (j + 1))).length ∧ ∀ k, S k = true ↔ k ∈ (fs.take i).flatten ++ ns.take (j + 1),
        fun H' q => ⟨ns.length - (j + 1), by omega, rfl, hjl, q⟩, fun x1 H7 y1 => ?_⟩
      have hnj : ns[j]? = some ns[j] := List.getElem?_eq_getElem hjl
      obtain ⟨w7, rfl, b7, l7, r7⟩ := dw1.yields j w6.ct w6 _ _ x1 H7 (.sh (.int ns[j])) (by rw [List.getElem?_map, hnj]; rfl) bw6.self l6 hG1 y1
      refine hin ns[j] (List.getElem_mem hjl) w6.ct w7 _ x1 _ b7 r7 fun w8 σ8 z8 b8 l8 hwp8 hw8 => ⟨hwp8.trans (wipe_wipe σ4 _), ?_⟩
      try simp only [tYes, if_true]
      intro s1 H1 C1 cl1 fp1
      refine hw8 s1 H1 C1 cl1 fp1 (.of _ (fun _ _ _ h => h) w6.ct) w8 σ8 _ b8 fun u x9 w9 z9 b9 l9 r9 ⟨e9, eo9⟩ => ?_
      subst e9
      have b9 : B X.K w6.ct w9 σ8 z9 := b9
      obtain ⟨as9, hD9⟩ := as6.on b6 hD6 b9
      have l69 : w6.Le w9 := (l7.trans l8).trans l9
      have b9c : B X.K c w9 σ z1 := by
        have := b6.slots (b6.comp b9) l69
        rw [eo9] at this
        exact this
      have hn6l : n6 < 3000 := by
        have q1 := usort_len ((fs.take i).flatten ++ ns.take j)
        rw [List.length_append, List.length_take] at q1
        omega
      have ef : (fs.take i).flatten ++ ns.take (j + 1) = ((fs.take i).flatten ++ ns.take j) ++ [ns[j]] := by
        rw [List.take_add_one, hnj, List.append_assoc]
        rfl
      refine ⟨ns[j], S6, n6, Dp_int r9, hD9, by show n6 + 1 < 4096; omega, ⟨w9.rho, w9.S, upd w9.H D (SetO X.w D (fun q => S6 q || decide (q = ns[j])) (if S6 ns[j] = true then n6 else n6 + 1))⟩, _, _, b9c.aside as9, (l6.trans l69).trans le_aside, rfl, ⟨as9.nr, as9.nS, as9.nc⟩, upd_same, ?_, fun q => ?_⟩
      · rw [ef]
        split
        · rename_i hSv
          rw [usort_old ((hS6 _).mp hSv)]
          exact hn6
        · rename_i hSv
          rw [usort_more fun q => hSv ((hS6 _).mpr q), hn6]
      · rw [ef, Bool.or_eq_true, hS6 q, decide_eq_true_eq, List.mem_append (s := (fs.take i).flatten ++ ns.take j), List.mem_singleton]
    · have e : j = ns.length := by omega
      subst e
      rw [List.take_of_length_le (Nat.le_refl _), ← efl] at hn6 hS6
      exact .inl ⟨by
        have := dw1.stops c w6 _ _ bw6 l6 hG1
        rw [hly] at this
        exact this, w6, S6, n6, b6, (l2.trans l25).trans l6, rfl, as6, hD6, hn6, hS6⟩
  · have e : i = ys.length := by omega
    subst e
    rw [hl, List.take_of_length_le (Nat.le_refl _)] at hn hS
    refine .inl ⟨dw.stops c w2 _ _ bw l2 hG, D, S, n, rfl, hD2, by
      rw [hn]
      exact h64, fun ms q h1 h2 _ hq => ?_⟩
    have e2 : ms = usort fs.flatten := usort_eq h1 fun k => by rw [h2 k, hS k]
    rw [e2]
    exact hk _ z1 w2 b2 (l1.trans l2) hP q hq
theorem we_sortSc2 {P : List Int → Z → Prop} (hb : Bi X "sorted" "sorted") (hN : X.N.Nodup) (ok : BlkOk X.N X.env.scope scope own) (hv : ∀ i ∈ vs1, i ∈ own.map (·.2)) (hg : ∀ s H C cl fp, PG (Blk X scope s H C cl fp) tg g) (hg1 : ∀ s H C cl fp, PG (Blk X scope s H C cl fp) tg1 g1) (hc : X.calm = true)
    (hP : ∀ ms z1, P ms z1 → Q (.sh (.list (ms.map .int))) z1 ∨ Q (.ob z1.ob.length) ⟨z1.sl, z1.ob ++ [.lst ((ms.map PyData.int).map .sh)]⟩)
    (h : WI X tg iter z (Sc2D X elt tg1 iter1 scope (own.map (·.2)) vs1 g g1 P)) (hs : ∀ x, foldedSetIterable iter X.env x = pure x) (hs1 : ∀ env x, foldedSetIterable iter1 env x = pure x)
    (he : starEach [.SetComp elt [⟨tg, iter, [], 0⟩, ⟨tg1, iter1, [], 0⟩] scope pos'] X.env = (false, eval (.SetComp elt [⟨tg, iter, [], 0⟩, ⟨tg1, iter1, [], 0⟩] scope pos') X.env) :: starEach [] X.env) (hpl : (backTo pos (starEach [] X.env)).any (·.1) = false) :
    WE X (.Call (.Name "sorted" p) [.SetComp elt [⟨tg, iter, [], 0⟩, ⟨tg1, iter1, [], 0⟩] scope pos'] [] pos) z Q := by
  intro c w σ k bb hk
  have pe : ∀ s H C cl fp, PE (Blk X scope s H C cl fp) elt (fun σ H Q => ∀ s H0 C cl fp, tE (Blk X scope s H0 C cl fp) elt σ H Q) := fun s H C cl fp => ⟨fun pins s1 σ H1 Q I h => h s H C cl fp pins s1 I⟩
  have pi : ∀ s H C cl fp, PI (Blk X scope s H C cl fp) tg1 iter1 (fun σ H R => ∀ s H0 C cl fp, tI (Blk X scope s H0 C cl fp) tg1 iter1 σ H R) := fun s H C cl fp => ⟨fun pins s1 σ H1 R I h => h s H C cl fp pins s1 I⟩
  refine tE_of (pe_callB (cr_sortedSet hc) hb.g.g hb.m hb.v (pa_cons (pe_sc2 hc hN piB ok hv hg (fun _ _ _ _ _ => pts_nil) pi hg1 (fun _ _ _ _ _ => pts_nil) pe hs hs1) pa_nil he) hb.g.n hb.g.d he hpl) ?_
  exact sc2_ok bb h fun ms z1 w1 b1 l1 hp => by
    rcases hP ms z1 hp with q | q
    · exact newInts b1 (hk.le l1) q
    · exact newIntsO b1 (hk.le l1) q
end
end Dl

namespace Dl
open PySem PySem.Spec L2
open PyProof.Rows hiding St
section
variable {X : Cy} {P : Program} {w : World} {K : PySem.W.Frag} {mg : Str → Option Value} {base : Heap} {N : List Str} {sc : Scope} {k : Nat}
theorem Good.inBI (g : Good X P w K mg base N sc k) {scope : Scope} {s : Shared} {H : Hp} {C : Addr} {cl : List (Str × Addr)} {fp : List Addr} {tg e : Expr} {z : Z} {R : List Sl → (Z → Prop) → Z → Prop} (l : List (Str × Nat)) (gl : List Str) (h1 : l.all (nmB N (relS scope sc)) = true) (h2 : gl.all (gnB (relS scope sc)) = true)
    (h : Nms (Blk X scope s H C cl fp) l → Gns (Blk X scope s H C cl fp) gl → WI (Blk X scope s H C cl fp) tg e z R) : WI (Blk X scope s H C cl fp) tg e z R := h (g.bnm h1) (g.bgn h2)
end
section
variable {X : Cy} {tg iter elt tg1 iter1 : Expr} {scope : Scope} {z : Z} {pos pos' p : Pos} {own : List (Str × Nat)} {vs1 : List Nat} {g g1 : TG} {Q : Sl → Z → Prop}
theorem we_sortSc2O (hb : Bi X "sorted" "sorted") (hN : X.N.Nodup) (ok : BlkOk X.N X.env.scope scope own) (hv : ∀ i ∈ vs1, i ∈ own.map (·.2)) (hg : ∀ s H C cl fp, PG (Blk X scope s H C cl fp) tg g) (hg1 : ∀ s H C cl fp, PG (Blk X scope s H C cl fp) tg1 g1) (hc : X.calm = true)
    (h : WI X tg iter z (Sc2D X elt tg1 iter1 scope (own.map (·.2)) vs1 g g1 (SortO Q))) (hs : ∀ x, foldedSetIterable iter X.env x = pure x) (hs1 : ∀ env x, foldedSetIterable iter1 env x = pure x)
    (he : starEach [.SetComp elt [⟨tg, iter, [], 0⟩, ⟨tg1, iter1, [], 0⟩] scope pos'] X.env = (false, eval (.SetComp elt [⟨tg, iter, [], 0⟩, ⟨tg1, iter1, [], 0⟩] scope pos') X.env) :: starEach [] X.env) (hpl : (backTo pos (starEach [] X.env)).any (·.1) = false) :
    WE X (.Call (.Name "sorted" p) [.SetComp elt [⟨tg, iter, [], 0⟩, ⟨tg1, iter1, [], 0⟩] scope pos'] [] pos) z Q := we_sortSc2 hb hN ok hv hg hg1 hc (fun _ _ h => .inr h) h hs hs1 he hpl
end
end Dl

namespace Dl
open PySem PySem.Spec L2
open PyProof.Rows hiding St
/-! ### a, b = x, y where a tuple is made -/
def swN (sc : Scope) (ts vs : List Expr) : Bool := !(ts.length == 2 || ts.length == 3) || vs.length != ts.length || ((ts.filterMap fun
    | .Name id pos => if sc.names.lookup id == some .local && pos.line == (ts.head?.map (·.pos.line)).getD 0 then some id else none
    | _ => none).length != ts.length)
theorem sw_none {env : Env} {sc : Scope} {ts vs : List Expr} {k k2 : Nat} {p p2 : Pos} (es : env.scope = sc) (h : swN sc ts vs = true) : swappedStores [.Tuple ts k p] (.Tuple vs k2 p2) env = pure none := by
  subst es
  unfold swN at h
  rw [Bool.or_eq_true, Bool.or_eq_true] at h
  unfold swappedStores
  simp only []
  split
  · rfl
  · rename_i h1
    rw [Bool.or_eq_true, Bool.or_eq_true, not_or, not_or] at h1
    split
    · rfl
    · rcases h with (h | h) | h
      · exact absurd h h1.1.1
      · exact absurd h h1.1.2
      · have h' : (ts.filterMap fun
            | .Name id pos => if env.kindOf id == some .local && pos.line == (ts.head?.map (·.pos.line)).getD 0 then some id else none
            | _ => none).length != ts.length := h
        split
        · rfl
        · rename_i h3
          rw [Bool.or_eq_true, not_or] at h3
          exact absurd h' h3.1
section
variable {X : Cy} {z : Z} {Q : Sl → Z → Prop}
/-- list(xs) as a new list of the store -/
theorem cd_listLO {ds : List PyData} (h : Q (.ob z.ob.length) ⟨z.sl, z.ob ++ [.lst (ds.map .sh)]⟩) : CD X (.type "list") [.sh (.list ds)] z Q := fun c w σ vs k b rr hk => by
  obtain ⟨v, rfl, r⟩ := p1 rr
  obtain ⟨p, xs, rfl, h1, s1⟩ := Dp_lstI r
  exact cB_of call_list_of ⟨p, xs, rfl, .inl (.inl (Same.rd b.same h1)), new_lst b (dp_allSh s1) hk h⟩
end
end Dl

namespace Dl
open PySem PySem.Spec L2
open PyProof.Rows hiding St
section
variable {X : Cy} {z : Z} {Q : Sl → Z → Prop}
/-! ### a list of the store beside data -/
theorem ob_dp {K : PySem.W.Frag} {c : Ct} {w : Wd} {σ : St} (b : B K c w σ z) {i : Nat} {xs : List Sl} {ds : List PyData} {v : V} (ho : z.ob[i]? = some (.lst xs)) (hx : allSh xs = some ds) (h : Vl K w v (.ob i)) (n : SeqAt.shaped (.list ds) = true) : L2.Dp K w.H v (.list ds) := by
  obtain ⟨p, hp, rfl⟩ := h
  obtain ⟨_, vs, hH, hv⟩ := b.ob i _ p ho hp
  exact (Dq.lst (.inl hH) (DpAll_mono b.same (allSh_dp hx hv))).dp (shaped_nd n)
theorem rd_neO {i : Nat} {xs : List Sl} {ds : List PyData} {e : PyData} (hu : X.A.units + 64 < cLine) (ho : z.ob[i]? = some (.lst xs)) (hx : allSh xs = some ds) (hd : SeqAt.shaped (.list ds) = true) (he : SeqAt.shaped e = true) (h : Q (.sh (.bool (!PyData.eqv (.list ds) e))) z) : RD X (compareOp .NotEq) (.ob i) (.sh e) z Q := fun c w σ v u k b r1 r2 hk =>
  rB_of (op_neD hu) ⟨_, e, ob_dp b ho hx r1 hd, r2.dp b he, hd, he, hk _ _ w z b (.refl w) (vB _) h⟩
theorem rd_eqO {i : Nat} {xs : List Sl} {ds : List PyData} {e : PyData} (hu : X.A.units + 64 < cLine) (ho : z.ob[i]? = some (.lst xs)) (hx : allSh xs = some ds) (hd : SeqAt.shaped (.list ds) = true) (he : SeqAt.shaped e = true) (h : Q (.sh (.bool (PyData.eqv (.list ds) e))) z) : RD X (compareOp .Eq) (.ob i) (.sh e) z Q := fun c w σ v u k b r1 r2 hk =>
  rB_of (op_eqD hu) ⟨_, e, ob_dp b ho hx r1 hd, r2.dp b he, hd, he, hk _ _ w z b (.refl w) (vB _) h⟩
theorem cd_tupO {i : Nat} {xs : List Sl} {ds : List PyData} (ho : z.ob[i]? = some (.lst xs)) (hx : allSh xs = some ds) (h : Q (.sh (.tuple ds)) z) : CD X (.type "tuple") [.ob i] z Q := fun c w σ vs k b rr hk => by
  obtain ⟨v, rfl, p, hp, rfl⟩ := p1 rr
  obtain ⟨_, us, hH, hv⟩ := b.ob i _ p ho hp
  exact cB_of call_tupleP ⟨p, us, rfl, .inl ⟨.inl (.inl hH), new_tup b (allSh_dp hx hv) hk h⟩⟩
end
section
variable {X : Cy} {tg elt t : Expr} {scope : Scope} {vs : List Nat} {g : TG} {Q : Sl → Z → Prop} {ys : List Sl} {G : Z → Prop} {z1 : Z}
theorem lcd_stI (I : Nat → List PyData → List OO → Prop) (hlen : ys.length ≤ 100000) (h0 : I 0 [] z1.ob) (hG : ∀ i acc om, I i acc om → G ⟨wipeZ z1.sl vs, om⟩)
    (h : ∀ (i : Nat) (y : Sl) (acc : List PyData) (om : List OO), ys[i]? = some y → I i acc om → acc.length ≤ i → GD X.K vs g y ⟨wipeZ z1.sl vs, om⟩ fun z2 => ∀ s H C cl fp, WT (Blk X scope s H C cl fp) t z2 fun b z3 =>
      (b = true → ∀ s H C cl fp, WE (Blk X scope s H C cl fp) elt z3 fun x z4 => ∃ d, x = .sh d ∧ I (i + 1) (acc ++ [d]) z4.ob) ∧ (b = false → I (i + 1) acc z3.ob))
    (hQ : ∀ acc om, I ys.length acc om → acc.length ≤ ys.length → Q (.sh (.list acc)) ⟨z1.sl, om⟩) : LcD X tg elt [t] scope vs g (FrzK Q) ys G z1 := by
  refine ⟨hlen, fun i acc om => ∃ ds : List PyData, acc = ds.map .sh ∧ ds.length ≤ i ∧ I i ds om, ⟨[], rfl, Nat.le_refl _, h0⟩, ?_, ?_, ?_⟩
  · rintro i acc om ⟨ds, rfl, _, hI⟩
    exact hG i ds om hI
  · rintro i y acc om hy ⟨ds, rfl, hl, hI⟩ _
    intro c w σ v k bb r hk
    refine h i y ds om hy hI hl c w σ v k bb r fun w' σ' z' b' l hw hq => hk w' σ' z' b' l hw fun s H C cl fp => ?_
    refine (hq s H C cl fp).mono fun b z3 ⟨ht, hf⟩ => ⟨fun h1 s2 H2 C2 cl2 fp2 => (ht h1 s2 H2 C2 cl2 fp2).mono fun x z4 ⟨d, e1, e2⟩ => ⟨ds ++ [d], by rw [e1, List.map_append]; rfl, by simp; omega, e2⟩, fun h1 => ⟨ds, rfl, by omega, hf h1⟩⟩
  · rintro acc om ⟨ds, rfl, hl, hI⟩ _
    exact ⟨ds, allSh_map ds, hQ ds om hI hl⟩
end
end Dl

namespace Dl
open PySem PySem.Spec L2
open PyProof.Rows hiding St
/-! ### x = [.. for ..] -/
def swLB (sc : Scope) (scope : Scope) (y : Str) (py pos : Pos) : Bool := (if sc.kind.isAnnotationScope then ScopeKind.function else sc.kind) == .function && sc.names.lookup y == some .local && py.line == pos.line && !(scope.names.any fun (n, k) => n == y && (k == .local || k == .cell))
theorem sw_lc {env : Env} {sc scope : Scope} {elt : Expr} {gs : List Comprehension} {y : Str} {py pos : Pos} {ln : Nat} (es : env.scope = sc) (h : swLB sc scope y py pos = true) : swapsWith (.ListComp elt gs scope pos) (some (.Name y py)) ln env = pure true := by
  subst es
  unfold swLB at h
  unfold swapsWith
  show pure _ = _
  rw [show (env.blockKind == .function && env.kindOf y == some .local && py.line == (Expr.ListComp elt gs scope pos).pos.line && !(scope.names.any fun (n, k) => n == y && (k == .local || k == .cell))) = true from h]
end Dl

namespace Dl
open PySem PySem.Spec L2
open PyProof.Rows hiding St
/-! ### `in`, `not in` of data that is compared deep -/
open Classical in
noncomputable def readsEq (h : Heap) (d : PyData) (y : Value) : Bool := decide (∃ e as, Reads h y e as ∧ PyData.eqv e d = true)
open Classical in
theorem readsEq_of {h : Heap} {d e : PyData} {y : Value} {as : List Addr} (r : Reads h y e as) : readsEq h d y = PyData.eqv e d := by
  unfold readsEq
  cases hq : PyData.eqv e d with
  | true => exact decide_eq_true ⟨e, as, r, hq⟩
  | false =>
    refine decide_eq_false ?_
    rintro ⟨e', as', r', h'⟩
    obtain ⟨rfl, _⟩ := PySem.Reads.unique r _ _ r'
    rw [hq] at h'
    cases h'
theorem readsAll_any {h : Heap} {d : PyData} : ∀ {us : List Value} {es : List PyData} {as : List Addr}, ReadsAll h us es as → us.any (readsEq h d) = es.any fun e => PyData.eqv e d
  | _, _, _, .nil => rfl
  | _, _, _, .cons r t => by rw [List.any_cons, List.any_cons, readsEq_of r, readsAll_any t]
theorem readsAll_at {h : Heap} : ∀ {us : List Value} {es : List PyData} {as : List Addr}, ReadsAll h us es as → ∀ u ∈ us, ∃ e ∈ es, ∃ bs, Reads h u e bs
  | _, _, _, .nil, _, hu => by cases hu
  | _, _, _, .cons r t, u, hu => by
    rcases List.mem_cons.mp hu with rfl | hu
    · exact ⟨_, List.mem_cons_self, _, r⟩
    · obtain ⟨e, he, bs, q⟩ := readsAll_at t u hu
      exact ⟨e, List.mem_cons_of_mem _ he, bs, q⟩
theorem canLay_mem : ∀ {es : List PyData}, PyData.canLayAll0 es = true → ∀ e ∈ es, e.canLay0 = true
  | [], _, _, h => by cases h
  | a :: es, hc, e, h => by
    simp only [PyData.canLayAll0, Bool.and_eq_true] at hc
    rcases List.mem_cons.mp h with rfl | h
    · exact hc.1
    · exact canLay_mem hc.2 e h
/-- what `x in ys` tells -/
def inD (d : PyData) (es : List PyData) : Bool := es.any fun e => PyData.eqv e d
def rInD (K : PySem.W.Frag) (neg : Bool) : R2 := fun x y H Q => ∃ d es, L2.Dp K H x d ∧ (L2.Dp K H y (.tuple es) ∨ L2.Dp K H y (.list es)) ∧ SeqAt.shaped d = true ∧ PyData.canLayAll0 es = true ∧ Q (.bl (if neg then !inD d es else inD d es)) H
section
variable {X : Cy}
theorem in_at {A : Around} {s : Shared} {d : PyData} {v : Value} {as bs : List Addr} {us : List Value} {es : List PyData} (hu : A.units + 65 < cLine) (r1 : Reads s.heap v d as) (r2 : ReadsAll s.heap us es bs) (hd : SeqAt.shaped d = true) (he : PyData.canLayAll0 es = true) : ∀ y, y ∈ us → SeqAt.EqAt A.in1 s y v (readsEq s.heap d y) := fun y hy => by
  obtain ⟨e, hm, cs, r⟩ := readsAll_at r2 y hy
  rw [readsEq_of r]
  refine SeqAt.eqAt_reads e d A.in1 s y v _ _ r r1 (canLay_mem he e hm) (SeqAt.canLay_of_shaped hd) ?_
  have h1 := SeqAt.depth_of_shaped hd
  have h2 : min e.depth d.depth ≤ d.depth := Nat.min_le_right _ _
  show A.units + 1 + min e.depth d.depth < cLine
  omega
theorem op_inD (hu : X.A.units + 65 < cLine) : OpR X (compareOp .In) (rInD X.K false) := by
  intro pins s σ H x y v u Q I rx ry h
  obtain ⟨d, es, hd, he, sd, se, q⟩ := h
  obtain ⟨as, r1⟩ := Dp.reads I d x v hd rx
  rcases he with he | he
  · obtain ⟨bs, r2⟩ := Dp.reads I _ y u he ry
    cases r2 with
    | @tuple l o vs n xs as₁ h1 h2 h3 h4 =>
      refine SeqAt.in_tupleAt (readsEq s.heap d) ⟨_, h1, h2, _, h3⟩ (fun w hw => in_at hu r1 h4 sd se w (by simpa using hw)) ⟨.bl _, H, I, rfl, ?_⟩
      rw [← Array.any_toList, readsAll_any h4]
      exact q
  · obtain ⟨bs, r2⟩ := Dp.reads I _ y u he ry
    cases r2 with
    | @list l o vs n xs as₁ h1 h2 h3 h4 =>
      refine SeqAt.in_listAt (readsEq s.heap d) ⟨_, h1, h2, _, h3⟩ (fun w hw => in_at hu r1 h4 sd se w (by simpa using hw)) ⟨.bl _, H, I, rfl, ?_⟩
      rw [← Array.any_toList, readsAll_any h4]
      exact q
theorem op_notInD (hu : X.A.units + 65 < cLine) : OpR X (compareOp .NotIn) (rInD X.K true) := by
  intro pins s σ H x y v u Q I rx ry h
  obtain ⟨d, es, hd, he, sd, se, q⟩ := h
  obtain ⟨as, r1⟩ := Dp.reads I d x v hd rx
  rcases he with he | he
  · obtain ⟨bs, r2⟩ := Dp.reads I _ y u he ry
    cases r2 with
    | @tuple l o vs n xs as₁ h1 h2 h3 h4 =>
      refine SeqAt.notIn_tupleAt (readsEq s.heap d) ⟨_, h1, h2, _, h3⟩ (fun w hw => in_at hu r1 h4 sd se w (by simpa using hw)) ⟨.bl _, H, I, rfl, ?_⟩
      rw [← Array.any_toList, readsAll_any h4]
      exact q
  · obtain ⟨bs, r2⟩ := Dp.reads I _ y u he ry
    cases r2 with
    | @list l o vs n xs as₁ h1 h2 h3 h4 =>
      refine SeqAt.notIn_listAt (readsEq s.heap d) ⟨_, h1, h2, _, h3⟩ (fun w hw => in_at hu r1 h4 sd se w (by simpa using hw)) ⟨.bl _, H, I, rfl, ?_⟩
      rw [← Array.any_toList, readsAll_any h4]
      exact q
variable {z : Z} {Q : Sl → Z → Prop}
theorem canLayT {es : List PyData} (h : SeqAt.shaped (.tuple es) = true) : PyData.canLayAll0 es = true := by
  have := SeqAt.canLay_of_shaped h
  simpa only [PyData.canLay0] using this
theorem canLayL {es : List PyData} (h : SeqAt.shaped (.list es) = true) : PyData.canLayAll0 es = true := by
  have := SeqAt.canLay_of_shaped h
  simpa only [PyData.canLay0] using this
theorem rd_inT {d : PyData} {es : List PyData} (hu : X.A.units + 65 < cLine) (hd : SeqAt.shaped d = true) (he : SeqAt.shaped (.tuple es) = true) (h : Q (.sh (.bool (inD d es))) z) : RD X (compareOp .In) (.sh d) (.sh (.tuple es)) z Q := fun c w σ v u k b r1 r2 hk =>
  rB_of (op_inD hu) ⟨d, es, r1.dp b hd, .inl (r2.dp b he), hd, canLayT he, hk _ _ w z b (.refl w) (vB _) h⟩
theorem rd_notInT {d : PyData} {es : List PyData} (hu : X.A.units + 65 < cLine) (hd : SeqAt.shaped d = true) (he : SeqAt.shaped (.tuple es) = true) (h : Q (.sh (.bool (!inD d es))) z) : RD X (compareOp .NotIn) (.sh d) (.sh (.tuple es)) z Q := fun c w σ v u k b r1 r2 hk =>
  rB_of (op_notInD hu) ⟨d, es, r1.dp b hd, .inl (r2.dp b he), hd, canLayT he, hk _ _ w z b (.refl w) (vB _) h⟩
theorem rd_inL {d : PyData} {es : List PyData} (hu : X.A.units + 65 < cLine) (hd : SeqAt.shaped d = true) (he : SeqAt.shaped (.list es) = true) (h : Q (.sh (.bool (inD d es))) z) : RD X (compareOp .In) (.sh d) (.sh (.list es)) z Q := fun c w σ v u k b r1 r2 hk =>
  rB_of (op_inD hu) ⟨d, es, r1.dp b hd, .inr (r2.dp b he), hd, canLayL he, hk _ _ w z b (.refl w) (vB _) h⟩
theorem rd_notInL {d : PyData} {es : List PyData} (hu : X.A.units + 65 < cLine) (hd : SeqAt.shaped d = true) (he : SeqAt.shaped (.list es) = true) (h : Q (.sh (.bool (!inD d es))) z) : RD X (compareOp .NotIn) (.sh d) (.sh (.list es)) z Q := fun c w σ v u k b r1 r2 hk =>
  rB_of (op_notInD hu) ⟨d, es, r1.dp b hd, .inr (r2.dp b he), hd, canLayL he, hk _ _ w z b (.refl w) (vB _) h⟩
theorem rd_inO {d : PyData} {es : List PyData} {i : Nat} {xs : List Sl} (hu : X.A.units + 65 < cLine) (ho : z.ob[i]? = some (.lst xs)) (hx : allSh xs = some es) (hd : SeqAt.shaped d = true) (he : SeqAt.shaped (.list es) = true) (h : Q (.sh (.bool (inD d es))) z) : RD X (compareOp .In) (.sh d) (.ob i) z Q := fun c w σ v u k b r1 r2 hk =>
  rB_of (op_inD hu) ⟨d, es, r1.dp b hd, .inr (ob_dp b ho hx r2 he), hd, canLayL he, hk _ _ w z b (.refl w) (vB _) h⟩
theorem rd_notInO {d : PyData} {es : List PyData} {i : Nat} {xs : List Sl} (hu : X.A.units + 65 < cLine) (ho : z.ob[i]? = some (.lst xs)) (hx : allSh xs = some es) (hd : SeqAt.shaped d = true) (he : SeqAt.shaped (.list es) = true) (h : Q (.sh (.bool (!inD d es))) z) : RD X (compareOp .NotIn) (.sh d) (.ob i) z Q := fun c w σ v u k b r1 r2 hk =>
  rB_of (op_notInD hu) ⟨d, es, r1.dp b hd, .inr (ob_dp b ho hx r2 he), hd, canLayL he, hk _ _ w z b (.refl w) (vB _) h⟩
end
end Dl

namespace Dl
open PySem PySem.Spec L2
open PyProof.Rows hiding St
/-! ### a list of the store comes to stay -/
def frzS (i : Nat) (d : PyData) : Sl → Sl
  | .ob j => if j = i then .sh d else .ob j
  | x => x
theorem B.frz {K : PySem.W.Frag} {c : Ct} {w : Wd} {σ : St} {z : Z} (b : B K c w σ z) {i : Nat} {xs : List Sl} {ds : List PyData} (ho : z.ob[i]? = some (.lst xs)) (hx : allSh xs = some ds) :
    ∃ S', w.Le ⟨w.rho, S', w.H⟩ ∧ B K c ⟨w.rho, S', w.H⟩ σ ⟨z.sl.map (frzS i (.list ds)), z.ob.set i .gone⟩ := by
  have hlt : i < w.rho.length := by
    rw [b.len]
    exact (List.getElem?_eq_some_iff.mp ho).1
  obtain ⟨p, hp⟩ : ∃ p, w.rho[i]? = some p := ⟨_, List.getElem?_eq_getElem hlt⟩
  obtain ⟨hS, vs, hH, hv⟩ := b.ob i _ p ho hp
  have l : w.Le ⟨w.rho, upd w.S p (.lst vs), w.H⟩ := ⟨fun a u e => by
    show upd w.S p _ a = some u
    rw [upd_ne (ne_of_none e hS)]
    exact e, fun _ _ h => h⟩
  have r2 : Vl K ⟨w.rho, upd w.S p (.lst vs), w.H⟩ (.ref p) (.sh (.list ds)) := Dq.lst (.inl upd_same) (DpAll_mono l.st (allSh_dp hx hv))
  refine ⟨upd w.S p (.lst vs), l, fun a u e => ?_, ?_, b.nd, b.tr, paired_map (fun o x q => ?_) b.sl, fun j x q h1 h2 => ?_, b.pre, b.fr, fun a u e => ?_, b.st.trans l.st, b.nr⟩
  · have e : upd w.S p _ a = some u := e
    show w.H a = some u
    by_cases ha : a = p
    · subst ha
      rw [upd_same] at e
      rw [hH, e]
    · rw [upd_ne ha] at e
      exact b.same a u e
  · show w.rho.length = (z.ob.set i _).length
    rw [List.length_set]
    exact b.len
  · rcases q with rfl | ⟨v, e, h⟩
    · exact .inl rfl
    · refine .inr ⟨v, e, ?_⟩
      cases x with
      | no => exact h
      | sh d => exact h.mono l
      | tp d => exact h.mono l
      | ex C d => exact h.mono l
      | ob j =>
        show Vl K _ v (if j = i then .sh _ else .ob j)
        by_cases hj : j = i
        · rw [if_pos hj]
          obtain ⟨p', hp', rfl⟩ := h
          rw [hj, hp] at hp'
          cases hp'
          exact r2
        · rw [if_neg hj]
          exact h.mono l
  · have h1 : (z.ob.set i .gone)[j]? = some x := h1
    have h2 : w.rho[j]? = some q := h2
    by_cases hj : i = j
    · subst hj
      rw [List.getElem?_set_self (List.getElem?_eq_some_iff.mp ho).1] at h1
      cases h1
      trivial
    · rw [List.getElem?_set_ne hj] at h1
      have hq : q ≠ p := fun e => hj (nodup_ixA b.nd hp (e ▸ h2))
      exact (b.ob j x q h1 h2).mono l (fun e => by
        show upd w.S p _ q = none
        rw [upd_ne hq]
        exact e) rfl
  · have e : upd w.S p _ a = some u := e
    by_cases ha : a = p
    · subst ha
      exact .inr (b.inOr (List.mem_of_getElem? hp))
    · rw [upd_ne ha] at e
      exact b.nw a u e
section
variable {X : Cy} {z : Z}
theorem ws_frz (i : Nat) {ss : List Stmt} {Q : Out → Prop} {xs : List Sl} {ds : List PyData} (ho : z.ob[i]? = some (.lst xs)) (hx : allSh xs = some ds) (h : WS X ss ⟨z.sl.map (frzS i (.list ds)), z.ob.set i .gone⟩ Q) : WS X ss z Q := fun c w σ D b hk => by
  obtain ⟨S', l, b'⟩ := b.frz ho hx
  exact h c ⟨w.rho, S', w.H⟩ σ D b' (hk.le l)
theorem w1_frz (i : Nat) {ss : Stmt} {Q : Out → Prop} {xs : List Sl} {ds : List PyData} (ho : z.ob[i]? = some (.lst xs)) (hx : allSh xs = some ds) (h : W1 X ss ⟨z.sl.map (frzS i (.list ds)), z.ob.set i .gone⟩ Q) : W1 X ss z Q := fun c w σ D b hk => by
  obtain ⟨S', l, b'⟩ := b.frz ho hx
  exact h c ⟨w.rho, S', w.H⟩ σ D b' (hk.le l)
theorem we_frz (i : Nat) {e : Expr} {Q : Sl → Z → Prop} {xs : List Sl} {ds : List PyData} (ho : z.ob[i]? = some (.lst xs)) (hx : allSh xs = some ds) (h : WE X e ⟨z.sl.map (frzS i (.list ds)), z.ob.set i .gone⟩ Q) : WE X e z Q := fun c w σ D b hk => by
  obtain ⟨S', l, b'⟩ := b.frz ho hx
  exact h c ⟨w.rho, S', w.H⟩ σ D b' (hk.le l)
end
/-! ### x = [.. for ..] that is changed behind -/
section
variable {X : Cy} {tg iter elt : Expr} {ifs : List Expr} {scope : Scope} {z : Z} {pos spos py : Pos} {own : List (Str × Nat)} {g : TG} {Q : Sl → Z → Prop}
theorem w1_setLcO {P : Out → Prop} {i : Nat} {y : Str} (hN : X.N.Nodup) (hy : X.N[i]? = some y) (ok : BlkOk X.N X.env.scope scope own) (hg : ∀ s H C cl fp, PG (Blk X scope s H C cl fp) tg g)
    (h : WI X tg iter z (LcD X tg elt ifs scope (own.map (·.2)) g fun acc z1 => P (.nx ⟨z1.sl.set i (.ob z1.ob.length), z1.ob ++ [.lst acc]⟩)))
    (hsw : swapsWith (.ListComp elt [⟨tg, iter, ifs, 0⟩] scope pos) (some (.Name y py)) spos.line X.env = pure true) (hyl : X.env.scope.names.lookup y = some .local := by rfl) (hc : X.calm = true := by rfl) (hs : ∀ x, foldedSetIterable iter X.env x = pure x := by intro _; rfl) :
    W1 X (.Assign [.Name y py] (.ListComp elt [⟨tg, iter, ifs, 0⟩] scope pos) spos) z P := fun c w σ D bb hk =>
  tS_of (ps_setLc hc hN hy hyl hsw piB ok hg (fun s H C cl fp => ⟨fun pins s1 σ H1 Q I h => ptsB.run pins s1 σ H1 Q I (h s H C cl fp)⟩) (fun s H C cl fp => ⟨fun pins s1 σ H1 Q I h => h s H C cl fp pins s1 I⟩) hs)
    (lc_ok bb h fun A vs acc w1 z1 b1 l1 as hD hp hq => by
      have b2 := b1.push as hD hp
      have r2 : Vl X.K ⟨w1.rho ++ [A], w1.S, w1.H⟩ (.ref A) (.ob z1.ob.length) := ⟨A, by
        show (w1.rho ++ [A])[z1.ob.length]? = some A
        rw [← b1.len, List.getElem?_append_right (Nat.le_refl _), Nat.sub_self]
        rfl, rfl⟩
      exact hk.nx ⟨w1.rho ++ [A], w1.S, w1.H⟩ _ _ (b2.setSl (i := i) r2) (l1.trans le_push) hq)
end
/-! ### comprehensions that change the store, whatever becomes of the list -/
section
variable {X : Cy} {tg elt t : Expr} {scope : Scope} {vs : List Nat} {g : TG} {ys : List Sl} {G : Z → Prop} {z1 : Z} {Kq : List Sl → Z → Prop}
theorem lcd_stG (I : Nat → List PyData → List OO → Prop) (hlen : ys.length ≤ 100000) (h0 : I 0 [] z1.ob) (hG : ∀ i acc om, I i acc om → G ⟨wipeZ z1.sl vs, om⟩)
    (h : ∀ (i : Nat) (y : Sl) (acc : List PyData) (om : List OO), ys[i]? = some y → I i acc om → acc.length = i → GD X.K vs g y ⟨wipeZ z1.sl vs, om⟩ fun z2 => ∀ s H C cl fp, WE (Blk X scope s H C cl fp) elt z2 fun x z4 => ∃ d, x = .sh d ∧ I (i + 1) (acc ++ [d]) z4.ob)
    (hQ : ∀ acc om, I ys.length acc om → acc.length = ys.length → Kq (acc.map .sh) ⟨z1.sl, om⟩) : LcD X tg elt [] scope vs g Kq ys G z1 := by
  refine ⟨hlen, fun i acc om => ∃ ds : List PyData, acc = ds.map .sh ∧ ds.length = i ∧ I i ds om, ⟨[], rfl, rfl, h0⟩, ?_, ?_, ?_⟩
  · rintro i acc om ⟨ds, rfl, _, hI⟩
    exact hG i ds om hI
  · rintro i y acc om hy ⟨ds, rfl, hl, hI⟩ _
    intro c w σ v k bb r hk
    refine h i y ds om hy hI hl c w σ v k bb r fun w' σ' z' b' l hw hq => hk w' σ' z' b' l hw fun s H C cl fp => ?_
    refine ⟨fun _ s2 H2 C2 cl2 fp2 => (hq s2 H2 C2 cl2 fp2).mono fun x z4 ⟨d, e1, e2⟩ => ⟨ds ++ [d], by rw [e1, List.map_append]; rfl, by simp [hl], e2⟩, fun h => by cases h⟩
  · rintro acc om ⟨ds, rfl, hl, hI⟩ _
    exact hQ ds om hI hl
theorem lcd_stIG (I : Nat → List PyData → List OO → Prop) (hlen : ys.length ≤ 100000) (h0 : I 0 [] z1.ob) (hG : ∀ i acc om, I i acc om → G ⟨wipeZ z1.sl vs, om⟩)
    (h : ∀ (i : Nat) (y : Sl) (acc : List PyData) (om : List OO), ys[i]? = some y → I i acc om → acc.length ≤ i → GD X.K vs g y ⟨wipeZ z1.sl vs, om⟩ fun z2 => ∀ s H C cl fp, WT (Blk X scope s H C cl fp) t z2 fun b z3 =>
      (b = true → ∀ s H C cl fp, WE (Blk X scope s H C cl fp) elt z3 fun x z4 => ∃ d, x = .sh d ∧ I (i + 1) (acc ++ [d]) z4.ob) ∧ (b = false → I (i + 1) acc z3.ob))
    (hQ : ∀ acc om, I ys.length acc om → acc.length ≤ ys.length → Kq (acc.map .sh) ⟨z1.sl, om⟩) : LcD X tg elt [t] scope vs g Kq ys G z1 := by
  refine ⟨hlen, fun i acc om => ∃ ds : List PyData, acc = ds.map .sh ∧ ds.length ≤ i ∧ I i ds om, ⟨[], rfl, Nat.le_refl _, h0⟩, ?_, ?_, ?_⟩
  · rintro i acc om ⟨ds, rfl, _, hI⟩
    exact hG i ds om hI
  · rintro i y acc om hy ⟨ds, rfl, hl, hI⟩ _
    intro c w σ v k bb r hk
    refine h i y ds om hy hI hl c w σ v k bb r fun w' σ' z' b' l hw hq => hk w' σ' z' b' l hw fun s H C cl fp => ?_
    refine (hq s H C cl fp).mono fun b z3 ⟨ht, hf⟩ => ⟨fun h1 s2 H2 C2 cl2 fp2 => (ht h1 s2 H2 C2 cl2 fp2).mono fun x z4 ⟨d, e1, e2⟩ => ⟨ds ++ [d], by rw [e1, List.map_append]; rfl, by simp; omega, e2⟩, fun h1 => ⟨ds, rfl, by omega, hf h1⟩⟩
  · rintro acc om ⟨ds, rfl, hl, hI⟩ _
    exact hQ ds om hI hl
end
/-! ### list.insert; a tuple some times -/
section
variable {X : Cy} {z : Z} {Q : Sl → Z → Prop}
theorem mo_insert {i : Nat} {xs : List Sl} {y : Sl} {n : Nat} (ho : z.ob[i]? = some (.lst xs)) (hl : xs.length < 100000) (hn : n ≤ 100000) (h : Q (.sh .none) ⟨z.sl, z.ob.set i (.lst (xs.take n ++ [y] ++ xs.drop n))⟩) : MO X "list.insert" i [.sh (.int n), y] z Q := fun c w σ p vs k b hp rr hk => by
  obtain ⟨_, us, hH, hv⟩ := b.ob i _ p ho hp
  cases rr with
  | cons q t =>
    cases t with
    | cons q2 t2 =>
      cases t2
      cases Dp_int q
      have hd : Paired (Vl X.K w) (us.take n ++ [_] ++ us.drop n) (xs.take n ++ [y] ++ xs.drop n) := paired_app (paired_app (paired_take n hv) (.cons q2 .nil)) (paired_drop n hv)
      refine mB_of mt_insert ⟨p, us, n, _, rfl, rfl, hH, ?_, by omega, by omega, ?_⟩
      · rw [hv.length]
        exact Nat.lt_of_lt_of_le hl (by decide)
      · exact hk _ _ _ _ (b.setO ho hp hd) le_set vN h
end
end Dl

set_option maxHeartbeats 4000000
namespace Dl
open PySem PySem.Spec L2
open PyProof.Rows hiding St
/-! ### a tuple once, or some times -/
theorem tuple_mul1 (l : Addr) (items : Array Value) (n : Nat) (dd : Option Addr) (sl : Array (Option Value)) (u : Tok) :
    Meets (Builtin.«tuple.__mul__» ⟨[.ref l, .int 1 u], []⟩) (fun _ R s => s.heap.get? l = some { cls := .type "tuple", dict := dd, data := .seq items n, slots := sl } ∧ R (.ok (.ret (Value.ref l))) s) :=
  .of_wp fun prog w A R s h => by
    obtain ⟨hp, g, d, tk, os⟩ := s
    obtain ⟨hl, h⟩ := h
    have f1 := AutoSeq1.idx_int
    wp_walk using wpAny_loadPart' hl
    exact ⟨_, rfl, h⟩
def rRep1 (K : PySem.W.Frag) : R2 := fun x y H Q => ∃ l xs, x = .ref l ∧ y = .int 1 ∧ SqT K H l xs ∧ Q (.ref l) H
section
variable {X : Cy} {z : Z} {Q : Sl → Z → Prop}
theorem op_rep1 : OpR X (binaryOp .Mult) (rRep1 X.K) := by
  intro pins s σ H x y v u Q I rx ry h
  obtain ⟨l, xs, rfl, rfl, hT, q⟩ := h
  cases rx
  obtain ⟨t, rfl⟩ := ry
  obtain ⟨its, r, ⟨⟨cls, dd, data, sl⟩, ho, hc, n, hd⟩, hs⟩ := I.tuple hT
  simp only at hc hd
  subst hc hd
  exact wpAny_binaryOp_repeat_ref (T := "tuple") (U := "int") (by decide) ⟨_, ho, rfl⟩ (fun s' => typeIs_int s' 1 t) noFill_tuple_mul F.fills_int_mul F.slot_int_rmul repeat_tuple F.slot_int_index.lookup
    (call_meets F.slot_int_rmul (typeIs_int s 1 t) F.entry_int_rmul (F.args_int_rmul_2 _ _) (int_rmul_tuple 1 t l its.toArray n dd sl)
      ⟨ho, rfl, ⟨_, ho, rfl⟩, call_meets F.slot_tuple_mul ⟨_, ho, rfl⟩ F.entry_tuple_mul (F.args_tuple_mul_2 _ _) (tuple_mul1 l its.toArray n dd sl t) ⟨ho, .ref l, H, I, rfl, q⟩⟩)
def rRepP (K : PySem.W.Frag) : R2 := fun x y H Q => ∃ l k xs, x = .ref l ∧ y = .int k ∧ SqT K H l xs ∧ xs ≠ [] ∧ 2 ≤ k ∧ k ≤ 1000 ∧ xs.length ≤ 1000 ∧ ∀ p o, H p = none → o.dict = none → Q (.ref p) (upd H p (.frz o (.tup (List.replicate k.toNat xs).flatten)))
theorem op_repP : OpR X (binaryOp .Mult) (rRepP X.K) := by
  intro pins s σ H x y v u Q I rx ry h
  obtain ⟨l, k, xs, rfl, rfl, hT, hx, h2, hk, hl, q⟩ := h
  cases rx
  obtain ⟨t, rfl⟩ := ry
  obtain ⟨its, r, ⟨⟨cls, dd, data, sl⟩, ho, hc, n, hd⟩, hs⟩ := I.tuple hT
  simp only at hc hd
  subst hc hd
  have el : xs.length = its.length := r.length
  have ne : its.toArray.isEmpty = false := by
    cases its with
    | nil => exact absurd (List.eq_nil_of_length_eq_zero el) hx
    | cons a b => rfl
  have hm : ((its.toArray.size : Nat) : Int) * k ≤ 1000000 := by
    have a0 : its.toArray.size ≤ 1000 := by rw [List.size_toArray]; omega
    have a1 : ((its.toArray.size : Nat) : Int) * k ≤ 1000 * k := Int.mul_le_mul_of_nonneg_right (by omega) (by omega)
    omega
  have a2 : k.toNat * its.length ≤ 1000 * 1000 := Nat.mul_le_mul (by omega) (by omega)
  have hz : (List.replicate k.toNat its).flatten.length ≤ sizeLine := by
    rw [PyProof.Rows.lm_len_rep_flat, sizeLine_eq]
    omega
  have k0 : (decide (k < -(2 ^ 63)) || decide (k ≥ 2 ^ 63)) = false := by
    simp only [Bool.or_eq_false_iff, decide_eq_false_iff_not]
    omega
  have k1 : (its.toArray.isEmpty || k == 1) = false := by
    simp only [ne, Bool.false_or, beq_eq_false_iff_ne]
    omega
  have k2 : (decide (k ≤ 0) || its.toArray.isEmpty) = false := by
    simp only [ne, Bool.or_false, decide_eq_false_iff_not]
    omega
  have k4 : Builtin.Tuple.tupleTooMany (((its.toArray.size : Nat) : Int) * k) = false := by
    simp only [Builtin.Tuple.tupleTooMany, sizeLine_eq, decide_eq_false_iff_not]
    omega
  have W := tuple_mulW l its.toArray n dd sl k t k0 k1 k2 (by omega) k4 (by rw [size_rep, List.size_toArray]; exact hz)
  have L := laidP I (r.rep k.toNat) (by rw [(r.rep k.toNat).length]; exact hz)
  rw [size_rep] at W
  exact wpAny_binaryOp_repeat_ref (T := "tuple") (U := "int") (by decide) ⟨_, ho, rfl⟩ (fun s' => typeIs_int s' k t) noFill_tuple_mul F.fills_int_mul F.slot_int_rmul repeat_tuple F.slot_int_index.lookup
    (call_meets F.slot_int_rmul (typeIs_int s k t) F.entry_int_rmul (F.args_int_rmul_2 _ _) (int_rmul_tuple k t l its.toArray n dd sl) ⟨ho, rfl, ⟨_, ho, rfl⟩, call_meets F.slot_tuple_mul ⟨_, ho, rfl⟩ F.entry_tuple_mul (F.args_tuple_mul_2 _ _) W ⟨ho, .ref s.heap.objs.size, _, L, rfl, q _ _ (I.hok.fresh (Nat.le_refl _)) rfl⟩⟩)
theorem rd_repT {ds : List PyData} {k : Int} (h0 : 1 ≤ k) (h1 : k ≤ 1000) (hn : ds ≠ []) (hc : ds.length ≤ 1000) (h : Q (.sh (.tuple (List.replicate k.toNat ds).flatten)) z) : RD X (binaryOp .Mult) (.sh (.tuple ds)) (.sh (.int k)) z Q := fun c w σ v u kk b r1 r2 hk => by
  obtain ⟨p, xs, rfl, h3, s1⟩ := Dp_tupI r1
  cases Dp_int r2
  by_cases e : k = 1
  · subst e
    refine rB_of op_rep1 ⟨p, xs, rfl, rfl, Same.tup b.same h3, ?_⟩
    have e2 : (List.replicate (1 : Int).toNat ds).flatten = ds := by
      show (List.replicate 1 ds).flatten = ds
      simp
    rw [e2] at h
    exact hk _ _ w z b (.refl w) r1 h
  · have hl := DpAll_len s1
    refine rB_of op_repP ⟨p, k, xs, rfl, rfl, Same.tup b.same h3, fun e => ?_, by omega, h1, by omega, new_tup b (DqAll_rep s1 _) hk h⟩
    subst e
    exact hn (List.eq_nil_of_length_eq_zero hl.symm)
end
end Dl

namespace Dl
open PySem PySem.Spec L2
open PyProof.Rows hiding St
/-! ### a, b, .. = x, y, .. by a tuple, of anything -/
def setSlS (sl : List Sl) : List Nat → List Sl → List Sl
  | i :: is, x :: xs => setSlS (sl.set i x) is xs
  | _, _ => sl
theorem gds_any {K : PySem.W.Frag} {c : Ct} {w : Wd} {k : St → Hp → Prop} : ∀ {is : List Nat} {us : List V} {xs : List Sl} {σ : St} {z : Z}, xs.length = is.length → Paired (Vl K w) us xs → B K c w σ z → (∀ σ', B K c w σ' ⟨setSlS z.sl is xs, z.ob⟩ → k σ' w.H) → gNames is us σ w.H k
  | [], _, _, σ, z, hl, .nil, b, h => ⟨rfl, h σ b⟩
  | i :: is, _, _, σ, z, hl, .cons q t, b, h => ⟨_, _, rfl, gds_any (z := ⟨z.sl.set i _, z.ob⟩) (by simpa using hl) t (b.setSl q) h⟩
  | [], _, _, _, _, hl, .cons _ _, _, _ => by cases hl
  | _ :: _, _, _, _, _, hl, .nil, _, _ => by cases hl
theorem w1_asgA {X : Cy} {z : Z} {Q : Out → Prop} {tg : Expr} {es : List Expr} {is : List Nat} {n x1 : Nat} {pos pos2 : Pos} (hg : PG X tg (gTup X.K n (gNames is))) (hn : is.length = n) (h : WA X es z fun xs z1 => xs.length = n ∧ n ≤ 100000 ∧ Q (.nx ⟨setSlS z1.sl is xs, z1.ob⟩))
    (hs : swapsWithSole [tg] (.Tuple es x1 pos2) pos.line X.env = pure false := by rfl) (hw : swappedStores [tg] (.Tuple es x1 pos2) X.env = pure none := by rfl) (h1 : (assignEach [tg] X.env).map (·.2) = [assign tg X.env] := by rfl) : W1 X (.Assign [tg] (.Tuple es x1 pos2) pos) z Q := fun c w σ D bb hk =>
  tS_of (ps_asg (pe_tupP paB) hg hs hw h1) (h c w σ _ bb fun vs xs w1 z1 b1 l1 rr ⟨hx, hle, hq⟩ => ⟨by
    rw [rr.length, hx]
    exact Nat.le_trans hle (by decide), fun p o hp ho => by
    have b2 : B X.K c ⟨w1.rho, w1.S, upd w1.H p (.frz o (.tup vs))⟩ σ z1 := b1.aside (b1.asideNew hp)
    have l2 : w1.Le ⟨w1.rho, w1.S, upd w1.H p (.frz o (.tup vs))⟩ := le_set
    refine ⟨p, vs, rfl, .inl (.inr ⟨o, upd_same⟩), by rw [rr.length, hx], gds_any (by rw [hx, hn]) (rr.mono fun _ _ q => q.mono l2) b2 fun σ' b3 => ?_⟩
    exact hk.nx _ σ' _ b3 (l1.trans l2) hq⟩)
end Dl

namespace Dl
open PySem PySem.Spec L2
open PyProof.Rows hiding St
section
variable {X : Cy} {z : Z} {Q : Sl → Z → Prop}
/-! ### sorted of a dict that stays -/
theorem cd_sortedF (hc : X.calm = true) {es : List (Key × PyData)} {ns : List Int} (hk : es.map (·.1) = ns.map Sum.inl) (hd : ns.Nodup) (h64 : ns.length < 64) (h : Q (.sh (.list ((usort ns).map .int))) z) : CD X (.builtin "sorted") [.sh (dicD es)] z Q := fun c w σ vs k b rr hkk => by
  obtain ⟨v, rfl, r⟩ := p1 rr
  obtain ⟨a, kvs, rfl, hH, hp⟩ := Dq_dic r
  refine cB_of (call_sortedDI hc) ⟨a, kvs, ns, rfl, .inl (b.same _ _ hH), by rw [hp.fst, hk], h64, fun ys p hperm hsort hp0 => ?_⟩
  have e : ys = usort ns := by
    refine usort_eq ?_ fun k => hperm.mem_iff
    have hnd : ys.Nodup := hperm.nodup_iff.mpr hd
    exact (List.Pairwise.and hsort hnd).imp fun q => by omega
  rw [e]
  exact newInts b hkk h p hp0
end
end Dl

namespace Dl
open PySem PySem.Spec L2
open PyProof.Rows hiding St
/-! ### a display of a dict: texts to ints -/
section
variable {X : Cy} {z : Z} {Q : Sl → Z → Prop} {pos : Pos}
def kiD (l : List (Str × Int)) : List (Key × PyData) := l.map fun q => (.inr q.1, .int q.2)
def kiV (l : List (Str × Int)) : List (Key × V) := l.map fun q => (.inr q.1, .int q.2)
theorem ki_pkv {K : PySem.W.Frag} {H : Hp} : ∀ l : List (Str × Int), PKV (Dq K H) (kiV l) (kiD l)
  | [] => .nil
  | q :: l => .cons ⟨rfl, .int q.2⟩ (ki_pkv l)
theorem disp_ok {K : PySem.W.Frag} {c : Ct} {w : Wd} {σ : St} {k : VK} {l : List (Str × Int)} (bb : B K c w σ z) (hk : Cont K c w σ Q k) (h : Q (.sh (dicD (mergeG [] (kiD l)))) z) {p : Addr} (hp : w.H p = none) : k (.ref p) (upd (upd w.H p (.dK [])) p (.dK (mergeK [] (kiV l)))) := by
  have hv : PKV (Dq K w.S) (mergeK [] (kiV l)) (mergeG [] (kiD l)) := PKV.merge (ki_pkv l) .nil
  have e : upd (upd w.H p (.dK [])) p (.dK (mergeK [] (kiV l))) = upd w.H p (.dK (mergeK [] (kiV l))) := by
    funext a
    by_cases ha : a = p
    · subst ha
      rw [upd_same, upd_same]
    · rw [upd_ne ha, upd_ne ha, upd_ne ha]
  rw [e]
  exact new_dicF bb hv hk h p hp
/-- keys and values as they are written -/
inductive KE : List (Option Expr) → List Expr → List (Str × Int) → Prop
  | nil : KE [] [] []
  | cons {k : Str} {v : Int} {c d a b ks vs l} : KE ks vs l → KE (some (.Constant (.str k) c a) :: ks) (.Constant (.int v) d b :: vs) ((k, v) :: l)
theorem KE.len {ks : List (Option Expr)} {vs : List Expr} {l : List (Str × Int)} (h : KE ks vs l) : ks.length = l.length ∧ vs.length = l.length ∧ ks.all (·.isSome) = true := by
  induction h with
  | nil => exact ⟨rfl, rfl, rfl⟩
  | cons _ ih => exact ⟨by simp [ih.1], by simp [ih.2.1], by simp [ih.2.2]⟩
theorem KE.pps {ks : List (Option Expr)} {vs : List Expr} {l : List (Str × Int)} (h : KE ks vs l) : ∃ trs, PPs X pos ks vs trs ∧ ∀ σ H (P : List (V × V) → Hp → Prop), P (l.map fun q => (V.str q.1, V.int q.2)) H → tPairs trs σ H P := by
  induction h with
  | nil => exact ⟨[], pps_nil, fun _ _ _ h => h⟩
  | cons _ ih =>
    obtain ⟨trs, h1, h2⟩ := ih
    exact ⟨_, pps_cons pe_str pe_int h1, fun σ H P h => h2 σ H _ h⟩
theorem we_dict {ks : List (Option Expr)} {vs : List Expr} (l : List (Str × Int)) (hl : KE ks vs l) (h0 : l ≠ []) (h15 : l.length ≤ 15) (h : Q (.sh (dicD (mergeG [] (kiD l)))) z) : WE X (.Dict ks vs pos) z Q := fun c w σ kk bb hk => by
  obtain ⟨trs, h1, h2⟩ := hl.pps (X := X) (pos := pos)
  obtain ⟨e1, e2, e3⟩ := hl.len
  refine tE_of (pe_disp h1 e3 (e1.trans e2.symm) (fun e => h0 (List.eq_nil_of_length_eq_zero (by rw [← e1, e]; rfl))) (by rw [e1]; exact h15)) (fun p hp => ?_)
  refine h2 σ _ _ ⟨upd_same, kiV l, ?_, by unfold kiV; rw [List.length_map]; exact h15, disp_ok bb hk h hp⟩
  unfold kiV
  rw [List.map_map]
  rfl
/-! ### s.upper(), xs.pop(i) -/
theorem we_upper {o : Expr} {apos : Pos} (h : WE X o z fun x z1 => ∃ a : Str, x = .sh (.str a) ∧ a.length ≤ 5592405 ∧ Q (.sh (.str (Txt.upper a))) z1)
    (hbase : attributeBase o "upper" X.env (eval o X.env) = eval o X.env := by rfl) (hline : (apos.endLine == pos.line) = true := by rfl) : WE X (.Call (.Attribute o "upper" apos) [] [] pos) z Q := fun c w σ k bb hk =>
  tE_of (pe_upper peB hbase hline) (h c w σ _ bb fun v x w1 z1 b1 l1 r1 ⟨a, ex, hl, hq⟩ => by
    subst ex
    cases Dp_str r1
    exact ⟨⟨a, rfl⟩, a, rfl, rfl, hl, hk _ _ w1 z1 b1 l1 (vS _) hq⟩)
theorem paired_erase {α β : Type} {F : α → β → Prop} : ∀ {l : List α} {m : List β} (n : Nat), Paired F l m → Paired F (l.eraseIdx n) (m.eraseIdx n)
  | _, _, _, .nil => .nil
  | _, _, 0, .cons _ t => t
  | _, _, n + 1, .cons q t => .cons q (paired_erase n t)
theorem mo_popAt {i : Nat} {xs : List Sl} {y : Sl} {n : Nat} (ho : z.ob[i]? = some (.lst xs)) (hl : xs.length < 100000) (hn : xs[n]? = some y) (h : Q y ⟨z.sl, z.ob.set i (.lst (xs.eraseIdx n))⟩) : MO X "list.pop" i [.sh (.int n)] z Q := fun c w σ p vs k b hp rr hk => by
  obtain ⟨_, us, hH, hv⟩ := b.ob i _ p ho hp
  cases rr with
  | cons q t =>
    cases t
    cases Dp_int q
    obtain ⟨v, e1, qv⟩ := paired_get hv hn
    have hlt := (List.getElem?_eq_some_iff.mp hn).1
    have hul := hv.length
    refine mB_of mt_popAt ⟨p, us, n, n, v, rfl, rfl, hH, by omega, by omega, ?_, e1, hk _ _ _ _ (b.setO ho hp (paired_erase n hv)) le_set (qv.mono le_set) h⟩
    unfold seqIndex?
    simp
    omega
theorem wt_lendS {e : Expr} {P : Bool → Z → Prop} (f : List Sl) (hf : z.sl.map (viewSl z.ob) = f) (h : WT X e ⟨f, []⟩ fun b _ => P b z) (hn : ∀ C d z, ¬ X.RX C d z := by assumption) : WT X e z P := wt_lend (by rw [hf]; exact h)
theorem view_lst {st : List OO} {n : Nat} {ds : List PyData} (h : st[n]? = some (.lst (ds.map .sh))) : viewSl st (.ob n) = .sh (.list ds) := by simp only [viewSl, h, allSh_map]
/-- list(t) as a new list of the store -/
theorem cd_listTO {ds : List PyData} (h : Q (.ob z.ob.length) ⟨z.sl, z.ob ++ [.lst (ds.map .sh)]⟩) : CD X (.type "list") [.sh (.tuple ds)] z Q := fun c w σ vs k b rr hk => by
  obtain ⟨v, rfl, r⟩ := p1 rr
  obtain ⟨p, xs, rfl, h1, s1⟩ := Dp_tupI r
  exact cB_of call_list_of ⟨p, xs, rfl, .inr (Same.tup b.same h1), new_lst b (dp_allSh s1) hk h⟩
theorem wt_chain {a b e : Expr} {op op' : CmpOp} {P : Bool → Z → Prop} (h : WE X a z fun x z1 => WE X b z1 fun y z2 => RD X (compareOp op) x y z2 fun t z3 => ∃ c, t = .sh (.bool c) ∧ (c = true → WE X e z3 fun u z4 => RD X (compareOp op') y u z4 (Tru P)) ∧ (c = false → P false z3))
    (hm : lastMarks [op, op'] [b, e] = false := by with_unfolding_all rfl) : WT X (.Compare a [op, op'] [b, e] pos) z P := fun c w σ k bb hk =>
  tT_of (pt_chain rB_op rB_op peB peB peB hm) (h c w σ _ bb fun v x w1 z1 b1 l1 r1 h1 => h1 c w1 σ _ b1 fun u y w2 z2 b2 l2 r2 h2 =>
    h2 c w2 σ v u _ b2 (r1.mono l2) r2 fun t s w3 z3 b3 l3 r3 ⟨d, e1, h4, h5⟩ => by
      subst e1
      have l13 := (l1.trans l2).trans l3
      cases Dp_bl r3
      refine ⟨d, rfl, ?_⟩
      cases d with
      | true =>
        rw [if_pos rfl]
        exact h4 rfl c w3 σ _ b3 fun u2 y2 w4 z4 b4 l4 r4 h6 => h6 c w4 σ u u2 _ b4 (r2.mono (l3.trans l4)) r4 fun v5 x5 w5 z5 b5 l5 r5 ⟨c5, e5, hp⟩ => ⟨c5, Dp_bl (e5 ▸ r5), hk c5 w5 z5 b5 ((l13.trans l4).trans l5) hp⟩
      | false =>
        rw [if_neg Bool.false_ne_true]
        exact ⟨false, rfl, hk false w3 z3 b3 l13 (h5 rfl)⟩)
theorem get_mid {α : Type} (l : List α) (a b : α) : ((l ++ [a]) ++ [b])[l.length]? = some a := by simp
theorem set_mid {α : Type} (l : List α) (a b c : α) : ((l ++ [a]) ++ [b]).set l.length c = (l ++ [c]) ++ [b] := by simp
theorem frz_other {om : List OO} {b : OO} {d : PyData} : frzS (om ++ [b]).length d (.ob om.length) = .ob om.length := by
  show (if om.length = (om ++ [b]).length then Sl.sh d else Sl.ob om.length) = _
  exact if_neg (by simp)
theorem frz_same {n : Nat} {d : PyData} : frzS n d (.ob n) = .sh d := by
  show (if n = n then Sl.sh d else Sl.ob n) = _
  exact if_pos rfl
end
end Dl

namespace Dl
open PySem PySem.Spec L2
open PyProof.Rows hiding St
/-! ### places of a store; xs.index(text) -/
theorem get_mids {α : Type} (l : List α) (a : α) (m : List α) : ((l ++ [a]) ++ m)[l.length]? = some a := by simp
theorem set_mids {α : Type} (l : List α) (a c : α) (m : List α) : ((l ++ [a]) ++ m).set l.length c = (l ++ [c]) ++ m := by simp
theorem get_mids2 {α : Type} (l : List α) (a : α) (m : List α) (x : α) : (((l ++ [a]) ++ m) ++ [x])[l.length]? = some a := by simp
theorem set_mids2 {α : Type} (l : List α) (a c : α) (m : List α) (x : α) : (((l ++ [a]) ++ m) ++ [x]).set l.length c = ((l ++ [c]) ++ m) ++ [x] := by simp
theorem len_mids {α : Type} (l : List α) (a : α) (m : List α) : ((l ++ [a]) ++ m).length = l.length + 1 + m.length := by simp; omega
theorem get_lasts {α : Type} (l : List α) (a : α) (m : List α) (x : α) : (((l ++ [a]) ++ m) ++ [x])[l.length + 1 + m.length]? = some x := by rw [← len_mids l a m, get_end]
theorem set_lasts {α : Type} (l : List α) (a : α) (m : List α) (x y : α) : (((l ++ [a]) ++ m) ++ [x]).set (l.length + 1 + m.length) y = ((l ++ [a]) ++ m) ++ [y] := by rw [← len_mids l a m, set_end]
theorem frz_mids {om om2 : List OO} {d : PyData} : frzS (om.length + 1 + om2.length) d (.ob om.length) = .ob om.length := by
  show (if om.length = om.length + 1 + om2.length then Sl.sh d else Sl.ob om.length) = _
  exact if_neg (by omega)
theorem get_last2 {α : Type} (l : List α) (a b : α) : ((l ++ [a]) ++ [b])[l.length + 1]? = some b := by simp
theorem set_last2 {α : Type} (l : List α) (a b c : α) : ((l ++ [a]) ++ [b]).set (l.length + 1) c = (l ++ [a]) ++ [c] := by simp
theorem frz_box {om : List OO} {d : PyData} : frzS (om.length + 1) d (.ob om.length) = .ob om.length := by
  show (if om.length = om.length + 1 then Sl.sh d else Sl.ob om.length) = _
  exact if_neg (by omega)
theorem base_dict {ks : List (Option Expr)} {vs : List Expr} {p : Pos} {m : Str} {E : Env} {t : Sem Value} : attributeBase (.Dict ks vs p) m E t = t := rfl
theorem base_list {es : List Expr} {p : Pos} {m : Str} {E : Env} {t : Sem Value} : attributeBase (.List es p) m E t = t := rfl
theorem DqAll_strs {K : PySem.W.Frag} {H : Hp} : ∀ {xs : List V} {ks : List Str}, DqAll K H xs (ks.map .str) → xs = ks.map V.str
  | _, [], .nil => rfl
  | _, k :: ks, .cons q t => by
    cases Dp_str q
    rw [DqAll_strs t]
    rfl
section
variable {X : Cy} {o e : Expr} {apos cpos : Pos} {z : Z} {Q : Sl → Z → Prop}
theorem we_indexF (h : WE X o z fun x z1 => ∃ ks : List Str, x = .sh (.list (ks.map .str)) ∧ WA X [e] z1 fun ys z2 => ∃ (k : Str) (j : Nat), ys = [.sh (.str k)] ∧ ks[j]? = some k ∧ (∀ m, m < j → ks[m]? ≠ some k) ∧ Q (.sh (.int j)) z2)
    (hbase : attributeBase o "index" X.env (eval o X.env) = eval o X.env)
    (hfew : ((backTo cpos (starEach [e] X.env)).all (fun x => !x.1) && (backToKw cpos (keywordEach [] X.env)).all (fun x => x.1.isSome)
      && decide ([e].length + ([] : List Keyword).length + (if ([] : List Keyword).isEmpty then 0 else 1) < 30)) = true := by rfl)
    (hline : (apos.endLine == cpos.line) = true := by rfl) (hs : starEach [e] X.env = (false, eval e X.env) :: starEach [] X.env := by rfl) (hplain : (backTo cpos (starEach [] X.env)).any (·.1) = false := by rfl) :
    WE X (.Call (.Attribute o "index" apos) [e] [] cpos) z Q := fun c w σ k bb hk =>
  tE_of (pe_bm F.plainAttrs_list F.slot_list_index F.type_list_index mB_op peB paB hbase hfew hline hs hplain) (h c w σ _ bb fun v x w1 z1 b1 l1 r1 ⟨ks, e1, h1⟩ => by
    subst e1
    obtain ⟨p, xs, rfl, q1, s1⟩ := Dp_lstI r1
    cases DqAll_strs s1
    refine ⟨.inl ⟨rfl, _, .inl (Same.rd b1.same q1)⟩, h1 c w1 σ _ b1 fun us ys w2 z2 b2 l2 r2 ⟨k2, j, ey, hj, hm, hq⟩ => ?_⟩
    subst ey
    obtain ⟨u, rfl, r3⟩ := p1 r2
    cases Dp_str r3
    obtain ⟨p', xs', e, q2, s2⟩ := Dp_lstI (r1.mono l2)
    cases e
    cases DqAll_strs s2
    refine mB_of mt_index ⟨p, ks.map V.str, .str k2, j, .str k2, rfl, rfl, .inl (Same.rd b2.same q2), rfl, ?_, ?_, ?_, ?_, hk _ _ _ _ b2 (l1.trans l2) (vI _) hq⟩
    · rw [List.all_eq_true]
      intro y hy
      obtain ⟨t, _, rfl⟩ := List.mem_map.mp hy
      rfl
    · rw [List.getElem?_map, hj]
      rfl
    · simp [eqV]
    · intro m z' hlt hz
      rw [List.getElem?_map] at hz
      obtain ⟨t, ht, rfl⟩ := Option.map_eq_some_iff.mp hz
      have hne : t ≠ k2 := fun e => hm m hlt (by rw [ht, e])
      simp [eqV, hne])
/-- list(range(n)) -/
def rngD (n : Nat) : List PyData := (List.range n).map fun (i : Nat) => .int (i : Int)
theorem dq_ints {K : PySem.W.Frag} {H : Hp} : ∀ ns : List Int, DqAll K H (ns.map V.int) (ns.map PyData.int)
  | [] => .nil
  | n :: ns => .cons (.int n) (dq_ints ns)
theorem we_listRg {p p2 pos2 : Pos} (hl : Bt X "list" "list") (hg : Gn X "range") (hm : X.mg "range" = none) (hc : X.calm = true) (h : WE X e z fun x z1 => ∃ n : Nat, x = .sh (.int n) ∧ n ≤ 100000 ∧ Q (.sh (.list (rngD n))) z1)
    (he : starEach [.Call (.Name "range" p2) [e] [] pos2] X.env = (false, eval (.Call (.Name "range" p2) [e] [] pos2) X.env) :: starEach [] X.env := by rfl) (he2 : starEach [e] X.env = (false, eval e X.env) :: starEach [] X.env := by rfl) :
    WE X (.Call (.Name "list" p) [.Call (.Name "range" p2) [e] [] pos2] [] cpos) z Q := fun c w σ k bb hk =>
  tE_of (pe_listRg hc hl.g.g hl.m (prg_1 hg.g hm peB he2) he) (h c w σ _ bb fun v x w1 z1 b1 l1 r1 ⟨n, e1, hn, hq⟩ => by
    subst e1
    cases Dp_int r1
    refine ⟨n, rfl, ⟨by omega, by omega, by omega, by omega, by omega⟩, ?_⟩
    have e2 : rgV 0 (n : Int) = ((List.range n).map fun (i : Nat) => (i : Int)).map V.int := by
      unfold rgV
      rw [List.map_map, Int.sub_zero, Int.toNat_natCast]
      refine List.map_congr_left fun i _ => ?_
      show V.int (0 + (i : Int)) = V.int (i : Int)
      rw [Int.zero_add]
    have e3 : rngD n = ((List.range n).map fun (i : Nat) => (i : Int)).map PyData.int := by
      unfold rngD
      rw [List.map_map]
      rfl
    rw [e2]
    exact new_lstF b1 (by rw [e3]; exact dq_ints _) (hk.le l1) hq)
end
end Dl

namespace Dl
open PySem PySem.Spec L2
open PyProof.Rows hiding St
/-! ### [e for a in xs for b in ys if t], all of it plain data -/
section
variable {X : Cy} {tg iter elt tg1 iter1 : Expr} {ifs1 : List Expr} {scope : Scope} {z : Z} {pos : Pos} {own : List (Str × Nat)} {vs1 : List Nat} {g g1 : TG} {Q : Sl → Z → Prop}
def Lc2D (X : Cy) (elt tg1 iter1 : Expr) (ifs1 : List Expr) (scope : Scope) (vs vs1 : List Nat) (g g1 : TG) (Q : List PyData → Z → Prop) : List Sl → (Z → Prop) → Z → Prop := fun ys G z1 => G ⟨wipeZ z1.sl vs, z1.ob⟩ ∧ ∃ fs : List (List (Option PyData)), ys.length = fs.length ∧ fs.flatten.length ≤ 100000 ∧
  (∀ (i : Nat) (y : Sl) (ds : List (Option PyData)), ys[i]? = some y → fs[i]? = some ds → GD X.K vs g y ⟨wipeZ z1.sl vs, z1.ob⟩ fun z2 => ∀ s H C cl fp, WI (Blk X scope s H C cl fp) tg1 iter1 z2 fun ys1 G1 z3 => z3 = z2 ∧ ys1.length = ds.length ∧ G1 ⟨wipeZ z2.sl vs1, z2.ob⟩ ∧ z2.ob = z1.ob ∧
    ∀ (j : Nat) (y1 : Sl) (d : Option PyData), ys1[j]? = some y1 → ds[j]? = some d → GD X.K vs1 g1 y1 ⟨wipeZ z2.sl vs1, z2.ob⟩ fun z4 => ∀ s H C cl fp, WTs (Blk X scope s H C cl fp) ifs1 z4 fun b z5 => b = d.isSome ∧ z5.ob = z1.ob ∧ ∀ e, d = some e → ∀ s H C cl fp, WE (Blk X scope s H C cl fp) elt z5 fun x z6 => x = .sh e ∧ z6.ob = z1.ob) ∧
  Q (fs.flatten.filterMap _root_.id) z1
theorem lc2_ok {P : List PyData → Z → Prop} {c : CtX X} {w : Wd} {σ : St} {k : VK} (bb : B X.K c w σ z) (h : WI X tg iter z (Lc2D X elt tg1 iter1 ifs1 scope (own.map (·.2)) vs1 g g1 P))
    (hk : ∀ D vs ds w1 z1, B X.K c w1 σ z1 → w.Le w1 → Aside c w1 D → w1.H D = some (.lst vs) → Paired (Vl X.K w1) vs (ds.map .sh) → P ds z1 → k (.ref D) w1.H) :
    tLc2 (tI X tg iter) g tYes (fun σ H R => ∀ s H0 C cl fp, tI (Blk X scope s H0 C cl fp) tg1 iter1 σ H R) g1 (fun σ H Q => ∀ s H0 C cl fp, tTs (Blk X scope s H0 C cl fp) ifs1 σ H Q) (fun σ H Q => ∀ s H0 C cl fp, tE (Blk X scope s H0 C cl fp) elt σ H Q) (own.map (·.2)) vs1 σ w.H k := by
  refine h c w σ _ bb fun J ys G w1 z1 b1 l1 dw ⟨hG, fs, hl, hft, hs, hP⟩ D hD => ?_
  have as1 : Aside c w1 D := b1.asideNew hD
  refine ⟨fun i m H' => m = ys.length - i ∧ i ≤ ys.length ∧ ∃ w' vs, B X.K c w' σ z1 ∧ w1.Le w' ∧ w'.H = H' ∧ Aside c w' D ∧ w'.H D = some (.lst vs) ∧ Paired (Vl X.K w') vs (((fs.take i).flatten.filterMap _root_.id).map .sh),
    ⟨ys.length, by simp, Nat.zero_le _, ⟨w1.rho, w1.S, upd w1.H D (.lst [])⟩, [], b1.aside as1, le_aside, rfl, ⟨as1.nr, as1.nS, as1.nc⟩, upd_same, .nil⟩, ?_⟩
  rintro i m H2 ⟨rfl, hi, w2, vs, b2, l2, rfl, as2, hD2, hp2⟩
  have bw := b2.wipe (own.map (·.2))
  by_cases hlt : i < ys.length
  · refine .inr ⟨dw.goes i c w2 _ _ hlt bw l2 hG, fun H' => ∃ w' vs, B X.K c w' σ z1 ∧ w1.Le w' ∧ w'.H = H' ∧ Aside c w' D ∧ w'.H D = some (.lst vs) ∧ Paired (Vl X.K w') vs (((fs.take (i + 1)).flatten.filterMap _root_.id).map .sh),
      fun H' q => ⟨ys.length - (i + 1), by omega, rfl, hlt, q⟩, fun x H' y => ?_⟩
    have hy : ys[i]? = some ys[i] := List.getElem?_eq_getElem hlt
    have hif : i < fs.length := by omega
    obtain ⟨ds, hds⟩ : ∃ ds, ds = fs[i] := ⟨_, rfl⟩
    have hf : fs[i]? = some ds := by rw [hds]; exact List.getElem?_eq_getElem hif
    have efl : (fs.take (i + 1)).flatten = (fs.take i).flatten ++ ds := by
      rw [List.take_add_one, hf, List.flatten_append]
      simp
    have hlen : (fs.take i).flatten.length + ds.length ≤ 100000 := by
      have h1 : ((fs.take (i + 1)).flatten ++ (fs.drop (i + 1)).flatten) = fs.flatten := by rw [← List.flatten_append, List.take_append_drop]
      have h2 := congrArg List.length h1
      rw [efl, List.length_append, List.length_append] at h2
      omega
    obtain ⟨w3, rfl, b3, l3, r3⟩ := dw.yields i w2.ct w2 _ _ x H' ys[i] hy bw.self l2 hG y
    refine hs i ys[i] ds hy hf w2.ct w3 _ x _ b3 r3 fun w4 σ4 z4 b4 l4 hwp hw => ⟨hwp.trans (wipe_wipe σ _), ?_⟩
    simp only [tYes, if_true]
    intro s0 H0 C cl fp
    refine hw s0 H0 C cl fp (.of _ (fun _ _ _ h => h) w2.ct) w4 σ4 _ b4 fun J1 ys1 G1 w5 z5 b5 l5 dw1 ⟨e5, ey1, hG1, eob, hin⟩ => ?_
    subst e5
    have b5 : B X.K w2.ct w5 σ4 z5 := b5
    have l25 : w2.Le w5 := (l3.trans l4).trans l5
    have b5c : B X.K c w5 σ z1 := by
      have := b2.slots (b2.comp b5) l25
      rw [eob] at this
      exact this
    obtain ⟨as5, hD5⟩ := as2.on b2 hD2 b5
    refine ⟨fun j k H' => k = ys1.length - j ∧ j ≤ ys1.length ∧ ∃ w' vs, B X.K c w' σ z1 ∧ w5.Le w' ∧ w'.H = H' ∧ Aside c w' D ∧ w'.H D = some (.lst vs) ∧ Paired (Vl X.K w') vs ((((fs.take i).flatten ++ ds.take j).filterMap _root_.id).map .sh),
      ⟨ys1.length, by simp, Nat.zero_le _, w5, vs, b5c, .refl w5, rfl, as5, hD5, by rw [List.take_zero, List.append_nil]; exact hp2.mono fun _ _ q => q.mono l25⟩, ?_⟩
    rintro j k6 H6 ⟨rfl, hj, w6, vs6, b6, l6, rfl, as6, hD6, hp6⟩
    have b6' : B X.K c w6 σ4 z5 := by
      have := b5.slots b6 l6
      rw [← eob] at this
      exact this
    have bw6 := b6'.wipe vs1
    by_cases hjl : j < ys1.length
    · refine .inr ⟨dw1.goes j c w6 _ _ hjl bw6 l6 hG1, fun H' => ∃ w' vs, B X.K c w' σ z1 ∧ w5.Le w' ∧ w'.H = H' ∧ Aside c w' D ∧ w'.H D = some (.lst vs) ∧ Paired (Vl X.K w') vs ((((fs.take i).flatten ++ ds.take (j + 1)).filterMap _root_.id).map .sh),
        fun H' q => ⟨ys1.length - (j + 1), by omega, rfl, hjl, q⟩, fun x1 H7 y1 => ?_⟩
      have hyj : ys1[j]? = some ys1[j] := List.getElem?_eq_getElem hjl
      obtain ⟨d, hd⟩ : ∃ d, ds[j]? = some d := ⟨_, List.getElem?_eq_getElem (by omega)⟩
      obtain ⟨w7, rfl, b7, l7, r7⟩ := dw1.yields j w6.ct w6 _ _ x1 H7 ys1[j] hyj bw6.self l6 hG1 y1
      refine hin j ys1[j] d hyj hd w6.ct w7 _ x1 _ b7 r7 fun w8 σ8 z8 b8 l8 hwp8 hw8 => ⟨hwp8.trans (wipe_wipe σ4 _), ?_⟩
      intro s1 H1 C1 cl1 fp1
      refine wts_ok (hw8 s1 H1 C1 cl1 fp1) (.of _ (fun _ _ _ h => h) w6.ct) w8 σ8 _ b8 fun bt w9 z9 b9 l9 ⟨e9, eo9, hq9⟩ => ?_
      have l69 : w6.Le w9 := (l7.trans l8).trans l9
      have ef : (fs.take i).flatten ++ ds.take (j + 1) = ((fs.take i).flatten ++ ds.take j) ++ [d] := by
        rw [List.take_add_one, hd, List.append_assoc]
        rfl
      have hl6 : vs6.length ≤ 100000 := by
        have q1 := List.length_filterMap_le (_root_.id : Option PyData → Option PyData) ((fs.take i).flatten ++ ds.take j)
        rw [List.length_append, List.length_take] at q1
        rw [hp6.length, List.length_map]
        omega
      cases d with
      | none =>
        subst e9
        obtain ⟨as9, hD9⟩ := as6.on b6 hD6 b9
        have b9c : B X.K c w9 σ z1 := by
          have := b6.slots (b6.comp b9) l69
          rw [eo9] at this
          exact this
        show ∃ w' vs, _
        exact ⟨w9, vs6, b9c, l6.trans l69, rfl, as9, hD9, by rw [ef, List.filterMap_append]; simpa using hp6.mono fun _ _ q => q.mono l69⟩
      | some e =>
        subst e9
        show ∀ s H0 C cl fp, tE (Blk X scope s H0 C cl fp) elt σ8 w9.H _
        intro s2 H2 C2 cl2 fp2
        refine hq9 e rfl s2 H2 C2 cl2 fp2 (.of _ (fun _ _ _ h => h) w6.ct) w9 σ8 _ b9 fun u x10 w10 z10 b10 l10 r10 ⟨e10, eo10⟩ => ?_
        subst e10
        have b10 : B X.K w6.ct w10 σ8 z10 := b10
        obtain ⟨as10, hD10⟩ := as6.on b6 hD6 b10
        have l610 : w6.Le w10 := l69.trans l10
        have b10c : B X.K c w10 σ z1 := by
          have := b6.slots (b6.comp b10) l610
          rw [eo10] at this
          exact this
        refine ⟨vs6, hD10, ?_, ⟨w10.rho, w10.S, upd w10.H D (.lst (vs6 ++ [u]))⟩, vs6 ++ [u], b10c.aside as10, (l6.trans l610).trans le_aside, rfl, ⟨as10.nr, as10.nS, as10.nc⟩, upd_same, ?_⟩
        · exact Nat.lt_of_le_of_lt hl6 (by decide)
        · rw [ef, List.filterMap_append, List.map_append]
          exact (hp6.mono fun _ _ q => q.mono (l610.trans le_aside)).snoc (r10.mono le_aside)
    · have e : j = ys1.length := by omega
      subst e
      rw [ey1, List.take_of_length_le (Nat.le_refl _), ← efl] at hp6
      exact .inl ⟨dw1.stops c w6 _ _ bw6 l6 hG1, w6, vs6, b6, (l2.trans l25).trans l6, rfl, as6, hD6, hp6⟩
  · have e : i = ys.length := by omega
    subst e
    rw [hl, List.take_of_length_le (Nat.le_refl _)] at hp2
    exact .inl ⟨dw.stops c w2 _ _ bw l2 hG, hk D vs _ w2 z1 b2 (l1.trans l2) as2 hD2 hp2 hP⟩
theorem we_lc2F (hN : X.N.Nodup) (ok : BlkOk X.N X.env.scope scope own) (hv : ∀ i ∈ vs1, i ∈ own.map (·.2)) (hg : ∀ s H C cl fp, PG (Blk X scope s H C cl fp) tg g) (hg1 : ∀ s H C cl fp, PG (Blk X scope s H C cl fp) tg1 g1) (hc : X.calm = true)
    (h : WI X tg iter z (Lc2D X elt tg1 iter1 ifs1 scope (own.map (·.2)) vs1 g g1 fun ds z1 => Q (.sh (.list ds)) z1)) (hs : ∀ x, foldedSetIterable iter X.env x = pure x) (hs1 : ∀ env x, foldedSetIterable iter1 env x = pure x) :
    WE X (.ListComp elt [⟨tg, iter, [], 0⟩, ⟨tg1, iter1, ifs1, 0⟩] scope pos) z Q := by
  intro c w σ k bb hk
  have pe : ∀ s H C cl fp, PE (Blk X scope s H C cl fp) elt (fun σ H Q => ∀ s H0 C cl fp, tE (Blk X scope s H0 C cl fp) elt σ H Q) := fun s H C cl fp => ⟨fun pins s1 σ H1 Q I h => h s H C cl fp pins s1 I⟩
  have pi : ∀ s H C cl fp, PI (Blk X scope s H C cl fp) tg1 iter1 (fun σ H R => ∀ s H0 C cl fp, tI (Blk X scope s H0 C cl fp) tg1 iter1 σ H R) := fun s H C cl fp => ⟨fun pins s1 σ H1 R I h => h s H C cl fp pins s1 I⟩
  have pt : ∀ s H C cl fp, PTs (Blk X scope s H C cl fp) ifs1 (fun σ H Q => ∀ s H0 C cl fp, tTs (Blk X scope s H0 C cl fp) ifs1 σ H Q) := fun s H C cl fp => ⟨fun pins s1 σ H1 Q I h => ptsB.run pins s1 σ H1 Q I (h s H C cl fp)⟩
  refine tE_of (pe_lc2 hc hN piB ok hv hg (fun _ _ _ _ _ => pts_nil) pi hg1 pt pe hs hs1) ?_
  exact lc2_ok bb h fun D vs ds w1 z1 b1 l1 as hD hp hq => hk (.ref D) (.sh (.list ds)) ⟨w1.rho, upd w1.S D (.lst vs), w1.H⟩ z1 (b1.stay as hD) (l1.trans (le_stay as.nS)) (Dq.lst (.inl upd_same) (DpAll_mono (le_stay (w := w1) as.nS).st (allSh_dp (allSh_map _) hp))) hq
end
end Dl

namespace Dl
open PySem PySem.Spec L2
open PyProof.Rows hiding St
/-! ### a comprehension within a comprehension -/
structure GoodB (X : Cy) (P : Program) (w : World) (K : PySem.W.Frag) (mg : Str → Option Value) (base : Heap) (N : List Str) (sc : Scope) (k : Nat) : Prop where
  prog : X.prog = P
  w : X.w = w
  K : X.K = K
  mg : X.mg = mg
  base : X.base = base
  N : X.N = N
  sc : X.env.scope = sc
  calm : X.calm = true
  room : RoomG k X.A
  nd : X.N.Nodup
section
variable {P : Program} {w : World} {K : PySem.W.Frag} {mg : Str → Option Value} {base : Heap} {X : Cy} {N : List Str} {sc : Scope} {k : Nat}
theorem GoodB.blk (g : GoodB X P w K mg base N sc k) {scope : Scope} {own : List (Str × Nat)} (h : blkC N sc scope own = true) : BlkOk X.N X.env.scope scope own := by
  rw [g.N, g.sc]
  exact blkOk_by h
theorem GoodB.bnm (g : GoodB X P w K mg base N sc k) {scope : Scope} {s : Shared} {H : Hp} {C : Addr} {cl : List (Str × Addr)} {fp : List Addr} {l : List (Str × Nat)} (h : l.all (nmB N (relS scope sc)) = true) : Nms (Blk X scope s H C cl fp) l := nms_of (X := Blk X scope s H C cl fp) (sc := relS scope sc) g.N (by rw [← g.sc]; rfl) h
theorem GoodB.bgn (g : GoodB X P w K mg base N sc k) {scope : Scope} {s : Shared} {H : Hp} {C : Addr} {cl : List (Str × Addr)} {fp : List Addr} {l : List Str} (h : l.all (gnB (relS scope sc)) = true) : Gns (Blk X scope s H C cl fp) l := gns_of (X := Blk X scope s H C cl fp) (sc := relS scope sc) (by rw [← g.sc]; rfl) h
theorem GoodB.bcf (g : GoodB X P w K mg base N sc k) {scope : Scope} {s : Shared} {H : Hp} {C : Addr} {cl : List (Str × Addr)} {fp : List Addr} {x : Str} {j : Nat} {ps : List Str} {R : Rl} (h : Gn (Blk X scope s H C cl fp) x) (d : Df P w K mg base x j ps R) : Cf (Blk X scope s H C cl fp) x j ps R := by
  refine ⟨h, ?_⟩
  show Df X.prog X.w X.K X.mg X.base x j ps R
  rw [g.prog, g.w, g.K, g.mg, g.base]
  exact d
theorem GoodB.bbi (g : GoodB X P w K mg base N sc k) {scope : Scope} {s : Shared} {H : Hp} {C : Addr} {cl : List (Str × Addr)} {fp : List Addr} {x : Str} {id : String} (h : Gn (Blk X scope s H C cl fp) x) (hm : mg x = none) (hv : bootBuiltins x = some (.builtin id)) : Bi (Blk X scope s H C cl fp) x id := ⟨h, by
  show X.mg x = none
  rw [g.mg]
  exact hm, hv⟩
theorem GoodB.bbt (g : GoodB X P w K mg base N sc k) {scope : Scope} {s : Shared} {H : Hp} {C : Addr} {cl : List (Str × Addr)} {fp : List Addr} {x : Str} {id : String} (h : Gn (Blk X scope s H C cl fp) x) (hm : mg x = none) (hv : bootBuiltins x = some (.type id)) : Bt (Blk X scope s H C cl fp) x id := ⟨h, by
  show X.mg x = none
  rw [g.mg]
  exact hm, hv⟩
theorem GoodB.bpg (g : GoodB X P w K mg base N sc k) {scope : Scope} {s : Shared} {H : Hp} {C : Addr} {cl : List (Str × Addr)} {fp : List Addr} {x : Str} {i : Nat} {pos : Pos} (h : (decide (N[i]? = some x) && nkB ((relS scope sc).names.lookup x) .local) = true) : PG (Blk X scope s H C cl fp) (.Name x pos) (gName i) := by
  rw [Bool.and_eq_true, decide_eq_true_eq] at h
  have e := nkB_eq h.2
  rw [← g.sc] at e
  exact pg_name (X := Blk X scope s H C cl fp) (show X.N.Nodup from g.nd) (show X.N[i]? = some x by rw [g.N]; exact h.1) (.inl e) (.inr e)
theorem GoodB.inB (g : GoodB X P w K mg base N sc k) {scope : Scope} {s : Shared} {H : Hp} {C : Addr} {cl : List (Str × Addr)} {fp : List Addr} {e : Expr} {z : Z} {Q : Sl → Z → Prop} (l : List (Str × Nat)) (gl : List Str) (h1 : l.all (nmB N (relS scope sc)) = true) (h2 : gl.all (gnB (relS scope sc)) = true)
    (h : Nms (Blk X scope s H C cl fp) l → Gns (Blk X scope s H C cl fp) gl → WE (Blk X scope s H C cl fp) e z Q) : WE (Blk X scope s H C cl fp) e z Q := h (g.bnm h1) (g.bgn h2)
theorem GoodB.inBT (g : GoodB X P w K mg base N sc k) {scope : Scope} {s : Shared} {H : Hp} {C : Addr} {cl : List (Str × Addr)} {fp : List Addr} {e : Expr} {z : Z} {Q : Bool → Z → Prop} (l : List (Str × Nat)) (gl : List Str) (h1 : l.all (nmB N (relS scope sc)) = true) (h2 : gl.all (gnB (relS scope sc)) = true)
    (h : Nms (Blk X scope s H C cl fp) l → Gns (Blk X scope s H C cl fp) gl → WT (Blk X scope s H C cl fp) e z Q) : WT (Blk X scope s H C cl fp) e z Q := h (g.bnm h1) (g.bgn h2)
theorem GoodB.bpg2 (g : GoodB X P w K mg base N sc k) {scope : Scope} {s : Shared} {H : Hp} {C : Addr} {cl : List (Str × Addr)} {fp : List Addr} {x y : Str} {i j : Nat} {p1 p2 pos : Pos} {kk : Nat} (h : (decide (N[i]? = some x) && nkB ((relS scope sc).names.lookup x) .local && (decide (N[j]? = some y) && nkB ((relS scope sc).names.lookup y) .local)) = true) :
    PG (Blk X scope s H C cl fp) (.Tuple [.Name x p1, .Name y p2] kk pos) (gTup X.K 2 (gNames [i, j])) := by
  rw [Bool.and_eq_true] at h
  exact pg_tup (X := Blk X scope s H C cl fp) (show X.calm = true from g.calm) (pgs_cons (g.bpg h.1) (pgs_cons (g.bpg h.2) pgs_nil))
theorem GoodB.bpg3 (g : GoodB X P w K mg base N sc k) {scope : Scope} {s : Shared} {H : Hp} {C : Addr} {cl : List (Str × Addr)} {fp : List Addr} {x y u : Str} {i j m : Nat} {p1 p2 p3 pos : Pos} {kk : Nat} (h : (decide (N[i]? = some x) && nkB ((relS scope sc).names.lookup x) .local && (decide (N[j]? = some y) && nkB ((relS scope sc).names.lookup y) .local) && (decide (N[m]? = some u) && nkB ((relS scope sc).names.lookup u) .local)) = true) :
    PG (Blk X scope s H C cl fp) (.Tuple [.Name x p1, .Name y p2, .Name u p3] kk pos) (gTup X.K 3 (gNames [i, j, m])) := by
  rw [Bool.and_eq_true, Bool.and_eq_true] at h
  exact pg_tup (X := Blk X scope s H C cl fp) (show X.calm = true from g.calm) (pgs_cons (g.bpg h.1.1) (pgs_cons (g.bpg h.1.2) (pgs_cons (g.bpg h.2) pgs_nil)))
theorem GoodB.inBI (g : GoodB X P w K mg base N sc k) {scope : Scope} {s : Shared} {H : Hp} {C : Addr} {cl : List (Str × Addr)} {fp : List Addr} {tg e : Expr} {z : Z} {R : List Sl → (Z → Prop) → Z → Prop} (l : List (Str × Nat)) (gl : List Str) (h1 : l.all (nmB N (relS scope sc)) = true) (h2 : gl.all (gnB (relS scope sc)) = true)
    (h : Nms (Blk X scope s H C cl fp) l → Gns (Blk X scope s H C cl fp) gl → WI (Blk X scope s H C cl fp) tg e z R) : WI (Blk X scope s H C cl fp) tg e z R := h (g.bnm h1) (g.bgn h2)
theorem Good.sub (g : Good X P w K mg base N sc k) {scope : Scope} {s : Shared} {H : Hp} {C : Addr} {cl : List (Str × Addr)} {fp : List Addr} : GoodB (Blk X scope s H C cl fp) P w K mg base N (relS scope sc) k := ⟨g.prog, g.w, g.K, g.mg, g.base, g.N, by rw [← g.sc]; rfl, g.calm, g.room, g.nd⟩
theorem Good.inBs (g : Good X P w K mg base N sc k) {scope : Scope} {s : Shared} {H : Hp} {C : Addr} {cl : List (Str × Addr)} {fp : List Addr} {e : Expr} {z : Z} {Q : Sl → Z → Prop} (l : List (Str × Nat)) (gl : List Str) (h1 : l.all (nmB N (relS scope sc)) = true) (h2 : gl.all (gnB (relS scope sc)) = true)
    (h : Nms (Blk X scope s H C cl fp) l → Gns (Blk X scope s H C cl fp) gl → GoodB (Blk X scope s H C cl fp) P w K mg base N (relS scope sc) k → WE (Blk X scope s H C cl fp) e z Q) : WE (Blk X scope s H C cl fp) e z Q := h (g.bnm h1) (g.bgn h2) g.sub
theorem Good.inBTs (g : Good X P w K mg base N sc k) {scope : Scope} {s : Shared} {H : Hp} {C : Addr} {cl : List (Str × Addr)} {fp : List Addr} {e : Expr} {z : Z} {Q : Bool → Z → Prop} (l : List (Str × Nat)) (gl : List Str) (h1 : l.all (nmB N (relS scope sc)) = true) (h2 : gl.all (gnB (relS scope sc)) = true)
    (h : Nms (Blk X scope s H C cl fp) l → Gns (Blk X scope s H C cl fp) gl → GoodB (Blk X scope s H C cl fp) P w K mg base N (relS scope sc) k → WT (Blk X scope s H C cl fp) e z Q) : WT (Blk X scope s H C cl fp) e z Q := h (g.bnm h1) (g.bgn h2) g.sub
theorem GoodB.sub (g : GoodB X P w K mg base N sc k) {scope : Scope} {s : Shared} {H : Hp} {C : Addr} {cl : List (Str × Addr)} {fp : List Addr} : GoodB (Blk X scope s H C cl fp) P w K mg base N (relS scope sc) k := ⟨g.prog, g.w, g.K, g.mg, g.base, g.N, by rw [← g.sc]; rfl, g.calm, g.room, g.nd⟩
theorem GoodB.inBs (g : GoodB X P w K mg base N sc k) {scope : Scope} {s : Shared} {H : Hp} {C : Addr} {cl : List (Str × Addr)} {fp : List Addr} {e : Expr} {z : Z} {Q : Sl → Z → Prop} (l : List (Str × Nat)) (gl : List Str) (h1 : l.all (nmB N (relS scope sc)) = true) (h2 : gl.all (gnB (relS scope sc)) = true)
    (h : Nms (Blk X scope s H C cl fp) l → Gns (Blk X scope s H C cl fp) gl → GoodB (Blk X scope s H C cl fp) P w K mg base N (relS scope sc) k → WE (Blk X scope s H C cl fp) e z Q) : WE (Blk X scope s H C cl fp) e z Q := h (g.bnm h1) (g.bgn h2) g.sub
theorem GoodB.inBTs (g : GoodB X P w K mg base N sc k) {scope : Scope} {s : Shared} {H : Hp} {C : Addr} {cl : List (Str × Addr)} {fp : List Addr} {e : Expr} {z : Z} {Q : Bool → Z → Prop} (l : List (Str × Nat)) (gl : List Str) (h1 : l.all (nmB N (relS scope sc)) = true) (h2 : gl.all (gnB (relS scope sc)) = true)
    (h : Nms (Blk X scope s H C cl fp) l → Gns (Blk X scope s H C cl fp) gl → GoodB (Blk X scope s H C cl fp) P w K mg base N (relS scope sc) k → WT (Blk X scope s H C cl fp) e z Q) : WT (Blk X scope s H C cl fp) e z Q := h (g.bnm h1) (g.bgn h2) g.sub
end
end Dl

namespace Dl
open PySem PySem.Spec L2
open PyProof.Rows hiding St
/-! ### xs[::-1] of a list that stays -/
section
variable {X : Cy} {z : Z} {Q : Sl → Z → Prop}
theorem s3_revL {ds : List PyData} (hl : ds.length < 100000) (h : Q (.sh (.list ds.reverse)) z) : S3 X (.sh (.list ds)) none none (-1) z Q := fun c w σ v k b r1 hk => by
  obtain ⟨p, xs, rfl, h1, s1⟩ := Dp_lstI r1
  intro pins s σ2 v vl vu vc sl I rx hs pl pu pc
  cases rx
  obtain ⟨its, r, ht, hz⟩ := I.list (.inl (Same.rd b.same h1))
  have hxl : xs.length = ds.length := DpAll_len s1
  have hil2 : its.length = ds.length := by rw [← r.length]; exact hxl
  have hsz : its.toArray.size ≤ sizeLine := by
    rw [List.size_toArray, hil2]
    exact Nat.le_of_lt (Nat.lt_of_lt_of_le hl (by decide))
  refine ⟨"list", _, slot_list_getitem.lookup, ht.isList.typeIs, ?_⟩
  refine wpAny_getItem_list_slice ht.isList hs pl pu pc (by simp) ?_ hsz
  rw [PySem.W.krv_pick]
  have hfin := new_lstF (Q := Q) b (paired_DqAll (paired_rev (DqAll_paired s1))) hk h s.heap.objs.size (I.hok.fresh (Nat.le_refl _))
  refine ⟨.ref s.heap.objs.size, _, I.laid (t' := s.toks) (o := .lst xs.reverse) (fun b ob q => Heap.get?_push_of_some _ q) (Nat.le_refl _) ?_, rfl, hfin⟩
  exact ⟨by rw [List.length_reverse]; exact hz, _, 0, paired_rev (F := RelV) r, Heap.get?_push_size _ rfl⟩
end
end Dl

namespace Dl
open PySem PySem.Spec L2
open PyProof.Rows hiding St
/-! ### an order of plain data, by codes -/
def lexI : List Int → List Int → Bool
  | [], [] => false
  | [], _ :: _ => true
  | _ :: _, [] => false
  | a :: as, b :: bs => if a = b then lexI as bs else decide (a < b)
theorem lexI_asym : ∀ x y : List Int, lexI x y = true → lexI y x = false
  | [], [], h => by cases h
  | [], _ :: _, _ => rfl
  | _ :: _, [], h => by cases h
  | a :: as, b :: bs, h => by
    unfold lexI at h ⊢
    by_cases e : a = b
    · rw [if_pos e] at h
      rw [if_pos e.symm]
      exact lexI_asym as bs h
    · rw [if_neg e, decide_eq_true_eq] at h
      rw [if_neg (fun q => e q.symm)]
      exact decide_eq_false (by omega)
theorem lexI_tr : ∀ x y z : List Int, lexI y x = false → lexI z y = false → lexI z x = false
  | [], _, [], _, _ => rfl
  | [], _, _ :: _, _, _ => rfl
  | _ :: _, [], _, h, _ => by cases h
  | _ :: _, _ :: _, [], _, h => by cases h
  | a :: as, b :: bs, c :: cs, h1, h2 => by
    unfold lexI at h1 h2 ⊢
    by_cases e1 : b = a
    · subst e1
      rw [if_pos rfl] at h1
      by_cases e2 : c = b
      · rw [if_pos e2] at h2 ⊢
        exact lexI_tr as bs cs h1 h2
      · rw [if_neg e2] at h2 ⊢
        exact h2
    · rw [if_neg e1, decide_eq_false_iff_not] at h1
      by_cases e2 : c = b
      · subst e2
        rw [if_neg e1]
        exact decide_eq_false h1
      · rw [if_neg e2, decide_eq_false_iff_not] at h2
        rw [if_neg (by omega)]
        exact decide_eq_false (by omega)
theorem lexI_swo : SrtO.Swo lexI := ⟨lexI_asym, lexI_tr⟩
/-- two lists that are not before one another are one -/
theorem lexI_eq : ∀ x y : List Int, lexI x y = false → lexI y x = false → x = y
  | [], [], _, _ => rfl
  | [], _ :: _, h, _ => by cases h
  | _ :: _, [], _, h => by cases h
  | a :: as, b :: bs, h1, h2 => by
    unfold lexI at h1 h2
    by_cases e : a = b
    · subst e
      rw [if_pos rfl] at h1 h2
      rw [lexI_eq as bs h1 h2]
    · rw [if_neg e, decide_eq_false_iff_not] at h1
      rw [if_neg (fun q => e q.symm), decide_eq_false_iff_not] at h2
      omega
def codeS (s : Str) : List Int := s.cps.toList.map (fun (c : Nat) => (c : Int) + 1) ++ [0]
mutual
def codeD : PyData → List Int
  | .int i => [i]
  | .str s => codeS s
  | .tuple ds => codeL ds
  | .list ds => codeL ds
  | _ => []
def codeL : List PyData → List Int
  | [] => [0]
  | d :: ds => 1 :: (codeD d ++ codeL ds)
end
def ltC (d e : PyData) : Bool := lexI (codeD d) (codeD e)
theorem ltC_swo : SrtO.Swo ltC := ⟨fun x y h => lexI_asym _ _ h, fun x y z h1 h2 => lexI_tr _ _ _ h1 h2⟩
/-! data whose parts can be compared -/
mutual
def cpb : PyData → PyData → Bool
  | .int _, .int _ => true
  | .str _, .str _ => true
  | .tuple as, .tuple bs => cpL as bs
  | _, _ => false
def cpL : List PyData → List PyData → Bool
  | a :: as, b :: bs => cpb a b && cpL as bs
  | _, _ => true
end
mutual
def eqD : PyData → PyData → Bool
  | .int a, .int b => decide (a = b)
  | .str a, .str b => decide (a = b)
  | .tuple as, .tuple bs => eqL as bs
  | _, _ => false
def eqL : List PyData → List PyData → Bool
  | [], [] => true
  | a :: as, b :: bs => eqD a b && eqL as bs
  | _, _ => false
end
mutual
def ltD : PyData → PyData → Bool
  | .int a, .int b => decide (a < b)
  | .str a, .str b => decide (a.cps.toList < b.cps.toList)
  | .tuple as, .tuple bs => ltL as bs
  | _, _ => false
def ltL : List PyData → List PyData → Bool
  | [], _ :: _ => true
  | a :: as, b :: bs => if eqD a b = true then ltL as bs else ltD a b
  | _, _ => false
end
theorem codeS_lex (x y : List Int) : ∀ a b : List Nat, lexI (a.map (fun (c : Nat) => (c : Int) + 1) ++ [0] ++ x) (b.map (fun (c : Nat) => (c : Int) + 1) ++ [0] ++ y) = if a = b then lexI x y else decide (a < b)
  | [], [] => by simp [lexI]
  | [], c :: b => by
    simp only [List.map_nil, List.nil_append, List.map_cons, List.cons_append, lexI]
    rw [if_neg (by omega), if_neg (by simp), decide_eq_decide]
    exact ⟨fun _ => List.nil_lt_cons _ _, fun _ => by omega⟩
  | c :: a, [] => by
    simp only [List.map_nil, List.nil_append, List.map_cons, List.cons_append, lexI]
    rw [if_neg (by omega), if_neg (by simp), decide_eq_decide]
    exact ⟨fun h => by omega, fun h => absurd h (List.not_lt_nil _)⟩
  | c :: a, e :: b => by
    have ih := codeS_lex x y a b
    simp only [List.map_cons, List.cons_append, lexI]
    by_cases h : c = e
    · subst h
      rw [if_pos rfl, ih]
      by_cases h2 : a = b
      · rw [if_pos h2, if_pos (by rw [h2])]
      · rw [if_neg h2, if_neg (fun q => h2 (List.cons.inj q).2), decide_eq_decide]
        simp [List.cons_lt_cons_iff]
    · rw [if_neg (by omega), if_neg (fun q => h (List.cons.inj q).1), decide_eq_decide, List.cons_lt_cons_iff]
      constructor
      · exact fun h2 => .inl (by omega)
      · rintro (h2 | ⟨h2, _⟩)
        · omega
        · exact absurd h2 h
mutual
theorem code_lex : ∀ (d e : PyData), cpb d e = true → ∀ x y : List Int, lexI (codeD d ++ x) (codeD e ++ y) = if eqD d e = true then lexI x y else ltD d e
  | .int a, .int b, _, x, y => by
    simp only [codeD, eqD, ltD, List.cons_append, List.nil_append, lexI, decide_eq_true_eq]
  | .str a, .str b, _, x, y => by
    simp only [codeD, eqD, ltD, codeS, decide_eq_true_eq]
    rw [codeS_lex]
    by_cases h : a = b
    · subst h
      rw [if_pos rfl, if_pos rfl]
    · have h2 : ¬ a.cps.toList = b.cps.toList := fun q => h (by
        cases a
        cases b
        simp only [Str.mk.injEq] at q ⊢
        exact Array.toList_inj.mp q)
      rw [if_neg h, if_neg h2]
  | .tuple as, .tuple bs, h, x, y => by
    simp only [codeD, eqD, ltD]
    simp only [cpb] at h
    exact codeL_lex as bs h x y
  | .none, _, h, _, _ => by simp [cpb] at h
  | .bool _, _, h, _, _ => by simp [cpb] at h
  | .list _, _, h, _, _ => by simp [cpb] at h
  | .dict _, _, h, _, _ => by simp [cpb] at h
  | .int _, .none, h, _, _ => by simp [cpb] at h
  | .int _, .bool _, h, _, _ => by simp [cpb] at h
  | .int _, .str _, h, _, _ => by simp [cpb] at h
  | .int _, .list _, h, _, _ => by simp [cpb] at h
  | .int _, .tuple _, h, _, _ => by simp [cpb] at h
  | .int _, .dict _, h, _, _ => by simp [cpb] at h
  | .str _, .none, h, _, _ => by simp [cpb] at h
  | .str _, .bool _, h, _, _ => by simp [cpb] at h
  | .str _, .int _, h, _, _ => by simp [cpb] at h
  | .str _, .list _, h, _, _ => by simp [cpb] at h
  | .str _, .tuple _, h, _, _ => by simp [cpb] at h
  | .str _, .dict _, h, _, _ => by simp [cpb] at h
  | .tuple _, .none, h, _, _ => by simp [cpb] at h
  | .tuple _, .bool _, h, _, _ => by simp [cpb] at h
  | .tuple _, .int _, h, _, _ => by simp [cpb] at h
  | .tuple _, .str _, h, _, _ => by simp [cpb] at h
  | .tuple _, .list _, h, _, _ => by simp [cpb] at h
  | .tuple _, .dict _, h, _, _ => by simp [cpb] at h
theorem codeL_lex : ∀ (ds es : List PyData), cpL ds es = true → ∀ x y : List Int, lexI (codeL ds ++ x) (codeL es ++ y) = if eqL ds es = true then lexI x y else ltL ds es
  | [], [], _, x, y => by simp [codeL, eqL, lexI]
  | [], e :: es, _, x, y => by simp [codeL, eqL, ltL, lexI]
  | d :: ds, [], _, x, y => by simp [codeL, eqL, ltL, lexI]
  | d :: ds, e :: es, h, x, y => by
    simp only [cpL, Bool.and_eq_true] at h
    have e1 : eqL (d :: ds) (e :: es) = (eqD d e && eqL ds es) := by simp only [eqL]
    have e2 : ltL (d :: ds) (e :: es) = if eqD d e = true then ltL ds es else ltD d e := by simp only [ltL]
    have e3 : ∀ (k : PyData) (ks : List PyData) (v : List Int), codeL (k :: ks) ++ v = 1 :: (codeD k ++ (codeL ks ++ v)) := fun k ks v => by simp only [codeL, List.cons_append, List.append_assoc]
    have e4 : ∀ u v : List Int, lexI (1 :: u) (1 :: v) = lexI u v := fun u v => if_pos rfl
    rw [e1, e2, e3, e3, e4, code_lex d e h.1, codeL_lex ds es h.2]
    cases eqD d e
    · simp
    · simp
end
theorem ltC_eq {d e : PyData} (h : cpb d e = true) (hne : eqD d e = false ∨ True) : ltC d e = (!eqD d e && ltD d e) := by
  have := code_lex d e h [] []
  rw [List.append_nil, List.append_nil] at this
  unfold ltC
  rw [this]
  cases eqD d e
  · simp
  · simp [lexI]
mutual
theorem ltD_irr : ∀ (d e : PyData), eqD d e = true → ltD d e = false
  | .int a, .int b, h => by
    simp only [eqD, decide_eq_true_eq] at h
    subst h
    simp [ltD]
  | .str a, .str b, h => by
    simp only [eqD, decide_eq_true_eq] at h
    subst h
    simp only [ltD]
    first | exact decide_eq_false (List.lt_irrefl _) | simp
  | .tuple as, .tuple bs, h => by
    simp only [eqD] at h
    simp only [ltD]
    exact ltL_irr as bs h
  | .none, _, h => by simp [eqD] at h
  | .bool _, _, h => by simp [eqD] at h
  | .list _, _, h => by simp [eqD] at h
  | .dict _, _, h => by simp [eqD] at h
  | .int _, .none, h => by simp [eqD] at h
  | .int _, .bool _, h => by simp [eqD] at h
  | .int _, .str _, h => by simp [eqD] at h
  | .int _, .list _, h => by simp [eqD] at h
  | .int _, .tuple _, h => by simp [eqD] at h
  | .int _, .dict _, h => by simp [eqD] at h
  | .str _, .none, h => by simp [eqD] at h
  | .str _, .bool _, h => by simp [eqD] at h
  | .str _, .int _, h => by simp [eqD] at h
  | .str _, .list _, h => by simp [eqD] at h
  | .str _, .tuple _, h => by simp [eqD] at h
  | .str _, .dict _, h => by simp [eqD] at h
  | .tuple _, .none, h => by simp [eqD] at h
  | .tuple _, .bool _, h => by simp [eqD] at h
  | .tuple _, .int _, h => by simp [eqD] at h
  | .tuple _, .str _, h => by simp [eqD] at h
  | .tuple _, .list _, h => by simp [eqD] at h
  | .tuple _, .dict _, h => by simp [eqD] at h
theorem ltL_irr : ∀ (ds es : List PyData), eqL ds es = true → ltL ds es = false
  | [], [], _ => by simp [ltL]
  | [], e :: es, h => by simp [eqL] at h
  | d :: ds, [], h => by simp [eqL] at h
  | d :: ds, e :: es, h => by
    simp only [eqL, Bool.and_eq_true] at h
    simp only [ltL]
    rw [if_pos h.1]
    exact ltL_irr ds es h.2
end
theorem ltC_ltD {d e : PyData} (h : cpb d e = true) : ltC d e = ltD d e := by
  rw [ltC_eq h (.inr trivial)]
  cases he : eqD d e with
  | false => rfl
  | true => rw [ltD_irr d e he]; rfl
/-! sorting by that -/
theorem tw_all {p : PyData → Bool} : ∀ {l : List PyData} {x : PyData}, x ∈ l.takeWhile p → p x = true
  | [], x, h => by cases h
  | a :: l, x, h => by
    rw [List.takeWhile_cons] at h
    split at h
    · rcases List.mem_cons.mp h with rfl | h
      · assumption
      · exact tw_all h
    · cases h
theorem dw_head {p : PyData → Bool} : ∀ {l : List PyData} {y : PyData} {r : List PyData}, l.dropWhile p = y :: r → p y = false
  | [], _, _, h => by cases h
  | a :: l, y, r, h => by
    rw [List.dropWhile_cons] at h
    split at h
    · exact dw_head h
    · rename_i hn
      cases h
      simpa using hn
def insE (d : PyData) (l : List PyData) : List PyData := l.takeWhile (fun e => !ltC d e) ++ d :: l.dropWhile (fun e => !ltC d e)
def sortD (ds : List PyData) : List PyData := ds.foldl (fun acc d => insE d acc) []
theorem insE_ok {d : PyData} {l o : List PyData} (hs : SrtO.Srtd ltC l) (hb : SrtO.Stb ltC l o) : SrtO.Srtd ltC (insE d l) ∧ SrtO.Stb ltC (insE d l) (o ++ [d]) := by
  have e : l.takeWhile (fun e => !ltC d e) ++ l.dropWhile (fun e => !ltC d e) = l := List.takeWhile_append_dropWhile
  have h1 : ∀ x ∈ l.takeWhile (fun e => !ltC d e), ltC d x = false := fun x hx => by
    have := tw_all hx
    simpa using this
  have h2 : ∀ x ∈ l.dropWhile (fun e => !ltC d e), ltC d x = true := by
    rw [← e] at hs
    have hsd := (SrtO.srtd_app.mp hs).2.1
    cases hd : l.dropWhile (fun e => !ltC d e) with
    | nil => exact fun x hx => by cases hx
    | cons y r =>
      rw [hd] at hsd
      have hy : ltC d y = true := by
        have := dw_head hd
        simpa using this
      exact ltC_swo.lt_all hsd hy
  refine ⟨SrtO.ins_srtd ltC_swo (by rw [e]; exact hs) h1 h2, SrtO.ins_stb ltC_swo h2 (by rw [e]; exact hb)⟩
theorem sortD_go : ∀ (ds acc o : List PyData), SrtO.Srtd ltC acc → SrtO.Stb ltC acc o → SrtO.Srtd ltC (ds.foldl (fun acc d => insE d acc) acc) ∧ SrtO.Stb ltC (ds.foldl (fun acc d => insE d acc) acc) (o ++ ds)
  | [], acc, o, h1, h2 => by
    rw [List.append_nil]
    exact ⟨h1, h2⟩
  | d :: ds, acc, o, h1, h2 => by
    obtain ⟨h3, h4⟩ := insE_ok (d := d) h1 h2
    have := sortD_go ds (insE d acc) (o ++ [d]) h3 h4
    rw [List.append_assoc] at this
    exact this
theorem sortD_ok (ds : List PyData) : SrtO.Srtd ltC (sortD ds) ∧ SrtO.Stb ltC (sortD ds) ds := by
  have := sortD_go ds [] [] .nil (.refl _)
  rw [List.nil_append] at this
  exact this
theorem sortD_perm (ds : List PyData) : (sortD ds).Perm ds := (sortD_ok ds).2.perm
theorem sortD_uniq {ds l : List PyData} (h1 : SrtO.Srtd ltC l) (h2 : SrtO.Stb ltC l ds) : l = sortD ds := by
  refine SrtO.stb_uniq ltC_swo h1 (sortD_ok ds).1 ⟨h2.perm.trans (sortD_perm ds).symm, fun x => ?_⟩
  rw [h2.cls x, (sortD_ok ds).2.cls x]
/-- what rises is the sorted list of all its arrangements -/
theorem rise_sortD : ∀ {l ds : List PyData}, l.Pairwise (fun a b => ltC a b = true) → l.Perm ds → l = sortD ds := fun {l ds} h hp => by
  have hs := (sortD_ok ds).1
  have hpp : l.Perm (sortD ds) := hp.trans (sortD_perm ds).symm
  clear hp
  generalize sortD ds = m at hs hpp
  induction l generalizing m with
  | nil => exact (List.Perm.eq_nil hpp.symm).symm
  | cons a l ih =>
    cases m with
    | nil => exact absurd hpp.length_eq (by simp)
    | cons b m =>
      obtain ⟨h1, h2⟩ := List.pairwise_cons.mp h
      have hab : a = b := by
        rcases List.mem_cons.mp (hpp.mem_iff.mpr List.mem_cons_self) with e | hb
        · exact e.symm
        · rcases List.mem_cons.mp (hpp.mem_iff.mp List.mem_cons_self) with e | ha
          · exact e
          · have q1 := h1 b hb
            have q2 := SrtO.srtd_head hs a ha
            rw [q1] at q2
            cases q2
      subst hab
      rw [ih h2 m (List.pairwise_cons.mp hs).2 hpp.cons_inv]
end Dl

namespace Dl
open PySem PySem.Spec L2
open PyProof.Rows hiding St
/-! ### plain data in a heap: ints, texts, tuples of such -/
def OdF (v : Value) (d : PyData) : Prop := (∃ i t, v = .int i t ∧ d = .int i) ∨ ∃ x t, v = .str x t ∧ d = .str x
def Od (h : Heap) : Nat → Value → PyData → Prop
  | 0 => OdF
  | n + 1 => fun v d => OdF v d ∨ ∃ a items ds, v = .ref a ∧ d = .tuple ds ∧ h.IsTuple a items ∧ Paired (Od h n) items.toList ds
theorem paired_mono {α β : Type} {F G : α → β → Prop} {l : List α} {m : List β} (h : Paired F l m) (q : ∀ a b, F a b → G a b) : Paired G l m := by
  induction h with
  | nil => exact .nil
  | cons a _ ih => exact .cons (q _ _ a) ih
theorem OdF.od {h : Heap} {v : Value} {d : PyData} (q : OdF v d) : ∀ n, Od h n v d
  | 0 => q
  | _ + 1 => .inl q
theorem IsTuple_at {h h' : Heap} {a : Addr} {items : Array Value} (x : h.IsTuple a items) (k : ∀ o, h.get? a = some o → h'.get? a = some o) : h'.IsTuple a items := by
  obtain ⟨o, ho, r⟩ := x
  exact ⟨o, k o ho, r⟩
theorem Od.keep {h h' : Heap} (k : ∀ b o, h.get? b = some o → o.cls = .type "tuple" → h'.get? b = some o) : ∀ {n : Nat} {v : Value} {d : PyData}, Od h n v d → Od h' n v d
  | 0, _, _, q => q
  | n + 1, v, d, q => by
    rcases q with q | ⟨a, items, ds, e1, e2, ⟨o, ho, hc, hd⟩, q⟩
    · exact .inl q
    · exact .inr ⟨a, items, ds, e1, e2, ⟨o, k a o ho hc, hc, hd⟩, paired_mono q fun _ _ r => Od.keep k r⟩
theorem paired_fun {α β : Type} {F G : α → β → Prop} (hf : ∀ a b c, F a b → G a c → b = c) : ∀ {l : List α} {m k : List β}, Paired F l m → Paired G l k → m = k
  | _, _, _, .nil, .nil => rfl
  | _, _, _, .cons a r, .cons b q => by rw [hf _ _ _ a b, paired_fun hf r q]
theorem odF_fun {v : Value} {d e : PyData} (h1 : OdF v d) (h2 : OdF v e) : d = e := by
  rcases h1 with ⟨i, t, rfl, rfl⟩ | ⟨x, t, rfl, rfl⟩ <;> rcases h2 with ⟨j, u, e1, rfl⟩ | ⟨y, u, e1, rfl⟩ <;> cases e1 <;> rfl
theorem OdF.noref {a : Addr} {d : PyData} (h : OdF (.ref a) d) : False := by
  rcases h with ⟨i, t, e, _⟩ | ⟨x, t, e, _⟩ <;> cases e
theorem od_fun {h : Heap} : ∀ {n m : Nat} {v : Value} {d e : PyData}, Od h n v d → Od h m v e → d = e
  | 0, 0, _, _, _, h1, h2 => odF_fun h1 h2
  | 0, m + 1, v, _, _, h1, h2 => by
    rcases h2 with h2 | ⟨a, _, _, rfl, _⟩
    · exact odF_fun h1 h2
    · exact (OdF.noref h1).elim
  | n + 1, 0, v, _, _, h1, h2 => by
    rcases h1 with h1 | ⟨a, _, _, rfl, _⟩
    · exact odF_fun h1 h2
    · exact (OdF.noref h2).elim
  | n + 1, m + 1, v, d, e, h1, h2 => by
    rcases h1 with h1 | ⟨a, items, ds, rfl, rfl, ⟨o, ho, hc, k, hd⟩, q⟩
    · rcases h2 with h2 | ⟨a, _, _, rfl, _⟩
      · exact odF_fun h1 h2
      · exact (OdF.noref h1).elim
    · rcases h2 with h2 | ⟨b, items2, es, e1, rfl, ⟨o2, ho2, hc2, k2, hd2⟩, q2⟩
      · exact (OdF.noref h2).elim
      · cases e1
        rw [ho] at ho2
        cases ho2
        rw [hd] at hd2
        cases hd2
        rw [paired_fun (F := Od h n) (G := Od h m) (fun _ _ _ r1 r2 => od_fun r1 r2) q q2]
/-! == -/
theorem zipAll_eq (e : Nat → Bool) : ∀ (ds es : List PyData) (j0 : Nat), (∀ j (h1 : j < ds.length) (h2 : j < es.length), e (j0 + j) = eqD ds[j] es[j]) → ((List.range (min ds.length es.length)).all (fun j => e (j0 + j)) && ds.length == es.length) = eqL ds es
  | [], [], j0, _ => by simp [eqL]
  | [], b :: es, j0, _ => by simp [eqL]
  | a :: ds, [], j0, _ => by simp [eqL]
  | a :: ds, b :: es, j0, h => by
    have ih := zipAll_eq e ds es (j0 + 1) fun j h1 h2 => by
      have := h (j + 1) (by simp; omega) (by simp; omega)
      rw [show j0 + 1 + j = j0 + (j + 1) by omega, this]
      rfl
    have h0 := h 0 (by simp) (by simp)
    have e1 : eqL (a :: ds) (b :: es) = (eqD a b && eqL ds es) := by simp only [eqL]
    have h0 : e j0 = eqD a b := h0
    rw [e1, ← ih, ← h0]
    have em : min (a :: ds).length (b :: es).length = min ds.length es.length + 1 := by
      rw [List.length_cons, List.length_cons]
      omega
    rw [em, List.range_succ_eq_map, List.all_cons, List.all_map, List.length_cons, List.length_cons]
    have ef : ((fun j => e (j0 + j)) ∘ Nat.succ) = fun j => e (j0 + 1 + j) := funext fun j => by
      show e (j0 + (j + 1)) = _
      rw [show j0 + 1 + j = j0 + (j + 1) by omega]
    rw [ef, Nat.add_zero, Bool.and_assoc]
    congr 2
    rw [Bool.eq_iff_iff]
    simp
theorem paired_at {α β : Type} {F : α → β → Prop} {l : List α} {m : List β} (h : Paired F l m) : l.length = m.length ∧ ∀ j (h1 : j < l.length) (h2 : j < m.length), F l[j] m[j] := by
  induction h with
  | nil => exact ⟨rfl, fun j h1 _ => absurd h1 (Nat.not_lt_zero j)⟩
  | cons a r ih =>
    refine ⟨by rw [List.length_cons, List.length_cons, ih.1], fun j h1 h2 => ?_⟩
    cases j with
    | zero => exact a
    | succ j => exact ih.2 j (Nat.lt_of_succ_lt_succ h1) (Nat.lt_of_succ_lt_succ h2)
theorem cpL_at : ∀ {ds es : List PyData}, cpL ds es = true → ∀ j (h1 : j < ds.length) (h2 : j < es.length), cpb ds[j] es[j] = true
  | [], _, _, j, h1, _ => absurd h1 (Nat.not_lt_zero j)
  | _ :: _, [], _, j, _, h2 => absurd h2 (Nat.not_lt_zero j)
  | d :: ds, e :: es, h, j, h1, h2 => by
    simp only [cpL, Bool.and_eq_true] at h
    cases j with
    | zero => exact h.1
    | succ j => exact cpL_at h.2 j (Nat.lt_of_succ_lt_succ h1) (Nat.lt_of_succ_lt_succ h2)
theorem od_refl {h : Heap} : ∀ {n : Nat} {v : Value} {d : PyData}, Od h n v d → eqD d d = true
  | 0, _, _, q => by
    rcases q with ⟨i, t, _, rfl⟩ | ⟨x, t, _, rfl⟩ <;> simp [eqD]
  | n + 1, _, _, q => by
    rcases q with q | ⟨a, items, ds, _, rfl, _, q⟩
    · rcases q with ⟨i, t, _, rfl⟩ | ⟨x, t, _, rfl⟩ <;> simp [eqD]
    · simp only [eqD]
      have go : ∀ {l : List Value} {m : List PyData}, Paired (Od h n) l m → eqL m m = true := fun {l m} p => by
        induction p with
        | nil => simp [eqL]
        | cons a _ ih => simp only [eqL, Bool.and_eq_true]; exact ⟨od_refl a, ih⟩
      exact go q
theorem beq_dec' {α : Type} [BEq α] [LawfulBEq α] [DecidableEq α] (a b : α) : (a == b) = decide (a = b) := by
  by_cases h : a = b <;> simp [h]
section
variable {s : Shared}
theorem eqF_at {A : Around} {v u : Value} {d e : PyData} (h1 : OdF v d) (h2 : OdF u e) (hc : cpb d e = true) : SeqAt.EqAt A s v u (eqD d e) := by
  rcases h1 with ⟨i, t, rfl, rfl⟩ | ⟨x, t, rfl, rfl⟩ <;> rcases h2 with ⟨j, w, rfl, rfl⟩ | ⟨y, w, rfl, rfl⟩
  · have := SeqAt.EqAt.int_int (A := A) (s := s) i t j w
    rw [show (i == j) = eqD (.int i) (.int j) by simp only [eqD]; exact beq_dec' i j] at this
    exact this
  · simp [cpb] at hc
  · simp [cpb] at hc
  · have := SeqAt.EqAt.str_str (A := A) (s := s) x t y w
    rw [show (x == y) = eqD (.str x) (.str y) by simp only [eqD]; exact beq_dec' x y] at this
    exact this
theorem eqD_at : ∀ (n : Nat) (A : Around) (v u : Value) (d e : PyData), A.units + n < cLine → Od s.heap n v d → Od s.heap n u e → cpb d e = true → SeqAt.EqAt A s v u (eqD d e)
  | 0, A, v, u, d, e, _, h1, h2, hc => eqF_at h1 h2 hc
  | n + 1, A, v, u, d, e, hu, h1, h2, hc => by
    rcases h1 with h1 | ⟨a, items, ds, rfl, rfl, hit, q⟩ <;> rcases h2 with h2 | ⟨b, items2, es, rfl, rfl, hit2, q2⟩
    · exact eqF_at h1 h2 hc
    · rcases h1 with ⟨i, t, rfl, rfl⟩ | ⟨x, t, rfl, rfl⟩ <;> simp [cpb] at hc
    · rcases h2 with ⟨i, t, rfl, rfl⟩ | ⟨x, t, rfl, rfl⟩ <;> simp [cpb] at hc
    · simp only [cpb] at hc
      have e1 : eqD (.tuple ds) (.tuple es) = eqL ds es := by simp only [eqD]
      rw [e1]
      by_cases hab : a = b
      · subst hab
        have : PyData.tuple ds = .tuple es := od_fun (h := s.heap) (n := n + 1) (m := n + 1) (.inr ⟨a, items, ds, rfl, rfl, hit, q⟩) (.inr ⟨a, items2, es, rfl, rfl, hit2, q2⟩)
        injection this with this
        subst this
        have hr : eqD (.tuple ds) (.tuple ds) = true := od_refl (h := s.heap) (n := n + 1) (v := .ref a) (.inr ⟨a, items, ds, rfl, rfl, hit, q⟩)
        rw [e1] at hr
        rw [hr]
        exact SeqAt.EqAt.same _
      · have p1 := paired_at q
        have p2 := paired_at q2
        refine SeqAt.EqAt.of_refs hab ?_
        have := SeqAt.RcAt.tuples (A := A) (s := s) (e := fun j => eqD (ds.getD j .none) (es.getD j .none)) hit hit2 (by omega) fun j h1 h2 => by
          have g1 : j < ds.length := by rw [← p1.1]; simpa using h1
          have g2 : j < es.length := by rw [← p2.1]; simpa using h2
          have := eqD_at n A.in1 items[j] items2[j] ds[j] es[j] (by show A.units + 1 + n < cLine; omega) (p1.2 j (by simpa using h1) g1) (p2.2 j (by simpa using h2) g2) (cpL_at hc j g1 g2)
          simpa [g1, g2] using this
        have hz := zipAll_eq (fun j => eqD (ds.getD j .none) (es.getD j .none)) ds es 0 fun j h1 h2 => by simp [h1, h2]
        rw [← hz]
        have l1 : items.size = ds.length := by rw [← p1.1]; simp
        have l2 : items2.size = es.length := by rw [← p2.1]; simp
        rw [l1, l2] at this
        simpa using this
/-! < -/
theorem lexAt_ltL (e r : Nat → Bool) : ∀ (ds es : List PyData) (j0 : Nat), (∀ j (h1 : j < ds.length) (h2 : j < es.length), e (j0 + j) = eqD ds[j] es[j] ∧ r (j0 + j) = ltD ds[j] es[j]) → Ob.lexAt e r (decide (ds.length < es.length)) j0 (min ds.length es.length) = ltL ds es
  | [], [], j0, _ => by simp [ltL, Ob.lexAt]
  | [], b :: es, j0, _ => by simp [ltL, Ob.lexAt]
  | a :: ds, [], j0, _ => by simp [ltL, Ob.lexAt]
  | a :: ds, b :: es, j0, h => by
    have ih := lexAt_ltL e r ds es (j0 + 1) fun j h1 h2 => by
      have := h (j + 1) (by simp; omega) (by simp; omega)
      rw [show j0 + 1 + j = j0 + (j + 1) by omega]
      exact this
    have h0 : e j0 = eqD a b ∧ r j0 = ltD a b := h 0 (by simp) (by simp)
    have em : min (a :: ds).length (b :: es).length = min ds.length es.length + 1 := by
      rw [List.length_cons, List.length_cons]
      omega
    have ed : decide ((a :: ds).length < (b :: es).length) = decide (ds.length < es.length) := by
      rw [decide_eq_decide, List.length_cons, List.length_cons]
      omega
    have e1 : ltL (a :: ds) (b :: es) = if eqD a b = true then ltL ds es else ltD a b := by simp only [ltL]
    rw [em, ed, e1, Ob.lexAt_succ, h0.1, h0.2, ih]
theorem ltF_at {A : Around} {v u : Value} {d e : PyData} (h1 : OdF v d) (h2 : OdF u e) (hc : cpb d e = true) : Ob.RcOp .Lt A s v u (ltD d e) := by
  rcases h1 with ⟨i, t, rfl, rfl⟩ | ⟨x, t, rfl, rfl⟩ <;> rcases h2 with ⟨j, w, rfl, rfl⟩ | ⟨y, w, rfl, rfl⟩
  · have := Ob.RcOp.lt_int (A := A) (s := s) i j t w
    rw [show decide (i < j) = ltD (.int i) (.int j) by simp only [ltD]] at this
    exact this
  · simp [cpb] at hc
  · simp [cpb] at hc
  · rw [show ltD (.str x) (.str y) = decide (x.cps.toList < y.cps.toList) by simp only [ltD]]
    exact fun _ _ _ _ h => PyProof.Rows.lt_str h
theorem ltD_at : ∀ (n : Nat) (A : Around) (v u : Value) (d e : PyData), A.units + n < cLine → Od s.heap n v d → Od s.heap n u e → cpb d e = true → Ob.RcOp .Lt A s v u (ltD d e)
  | 0, A, v, u, d, e, _, h1, h2, hc => ltF_at h1 h2 hc
  | n + 1, A, v, u, d, e, hu, h1, h2, hc => by
    rcases h1 with h1 | ⟨a, items, ds, rfl, rfl, hit, q⟩ <;> rcases h2 with h2 | ⟨b, items2, es, rfl, rfl, hit2, q2⟩
    · exact ltF_at h1 h2 hc
    · rcases h1 with ⟨i, t, rfl, rfl⟩ | ⟨x, t, rfl, rfl⟩ <;> simp [cpb] at hc
    · rcases h2 with ⟨i, t, rfl, rfl⟩ | ⟨x, t, rfl, rfl⟩ <;> simp [cpb] at hc
    · simp only [cpb] at hc
      have e1 : ltD (.tuple ds) (.tuple es) = ltL ds es := by simp only [ltD]
      rw [e1]
      have p1 := paired_at q
      have p2 := paired_at q2
      have l1 : items.size = ds.length := by rw [← p1.1]; simp
      have l2 : items2.size = es.length := by rw [← p2.1]; simp
      have hz := lexAt_ltL (fun j => eqD (ds.getD j .none) (es.getD j .none)) (fun j => ltD (ds.getD j .none) (es.getD j .none)) ds es 0 fun j h1 h2 => by simp [h1, h2]
      rw [← hz, ← l1, ← l2]
      refine Ob.RcOp.tuples_lt hit hit2 (by omega) (fun j h1 h2 => ?_) fun j h1 h2 _ => ?_
      · have g1 : j < ds.length := by omega
        have g2 : j < es.length := by omega
        have := eqD_at (s := s) n A.in1 items[j] items2[j] ds[j] es[j] (by show A.units + 1 + n < cLine; omega) (p1.2 j (by simpa using h1) g1) (p2.2 j (by simpa using h2) g2) (cpL_at hc j g1 g2)
        simpa [g1, g2] using this
      · have g1 : j < ds.length := by omega
        have g2 : j < es.length := by omega
        have := ltD_at n A.in1 items[j] items2[j] ds[j] es[j] (by show A.units + 1 + n < cLine; omega) (p1.2 j (by simpa using h1) g1) (p2.2 j (by simpa using h2) g2) (cpL_at hc j g1 g2)
        simpa [g1, g2] using this
end
end Dl

namespace Dl
open PySem PySem.Spec L2
open PyProof.Rows hiding St
/-! ### lists of one kind, sorted -/
def fk : PyData → Nat
  | .int _ => 1
  | .str _ => 2
  | .tuple (.int _ :: _) => 3
  | .tuple (.str _ :: _) => 4
  | .tuple (.tuple _ :: _) => 5
  | _ => 0
structure Srb (ds : List PyData) : Prop where
  k : ∃ k, k ≠ 0 ∧ ∀ d ∈ ds, fk d = k
  c : ∀ d ∈ ds, ∀ e ∈ ds, cpb d e = true
theorem fk_cases {d : PyData} {k : Nat} (h : fk d = k) (hk : k ≠ 0) : (k = 1 ∧ ∃ i, d = .int i) ∨ (k = 2 ∧ ∃ x, d = .str x) ∨ (k = 3 ∧ ∃ i ds, d = .tuple (.int i :: ds)) ∨ (k = 4 ∧ ∃ x ds, d = .tuple (.str x :: ds)) ∨ (k = 5 ∧ ∃ es ds, d = .tuple (.tuple es :: ds)) := by
  unfold fk at h
  split at h
  · exact .inl ⟨h.symm, _, rfl⟩
  · exact .inr (.inl ⟨h.symm, _, rfl⟩)
  · exact .inr (.inr (.inl ⟨h.symm, _, _, rfl⟩))
  · exact .inr (.inr (.inr (.inl ⟨h.symm, _, _, rfl⟩)))
  · exact .inr (.inr (.inr (.inr ⟨h.symm, _, _, rfl⟩)))
  · exact absurd h.symm hk
def lexR (fin : Bool) : List PyData → List PyData → Bool
  | a :: ds, b :: es => if eqD a b = true then lexR fin ds es else ltD a b
  | _, _ => fin
theorem lexR_ltL : ∀ ds es : List PyData, lexR (decide (ds.length < es.length)) ds es = ltL ds es
  | [], [] => by simp [lexR, ltL]
  | [], _ :: _ => by simp [lexR, ltL]
  | _ :: _, [] => by simp [lexR, ltL]
  | d :: ds, e :: es => by
    have ed : decide ((d :: ds).length < (e :: es).length) = decide (ds.length < es.length) := by
      rw [decide_eq_decide, List.length_cons, List.length_cons]
      omega
    have e1 : ltL (d :: ds) (e :: es) = if eqD d e = true then ltL ds es else ltD d e := by simp only [ltL]
    rw [ed, e1, ← lexR_ltL ds es]
    rfl
section
variable {prog : Program} {w : World} {A : Around} {s : Shared} {n : Nat}
theorem one_rc {v u : Value} {r : Bool} {Q : Bool → Shared → Prop} {E : Value → Shared → Prop} (h : Ob.RcOp .Lt A s v u r) (q : Q r s) : wpAny (model prog w) A (oneLt' false v u) Q E s :=
  PySem.W.kat_one v u (h prog w E (PySem.W.BoolBack Q) q)
theorem kat_rest {b fin : Bool} {Q : Bool → Shared → Prop} (hu : A.units + n < cLine) : ∀ (l1 l2 : List Value) (ds es : List PyData) (i : Nat), (b = false ∨ 0 < i) → Paired (Od s.heap n) l1 ds → Paired (Od s.heap n) l2 es → cpL ds es = true → Q (lexR fin ds es) s → PySem.W.KatLex prog w A b fin Q (l1.zip l2) i s
  | _, _, [], es, i, _, .nil, h2, _, q => PySem.W.kat_nil (by cases es <;> exact q)
  | _, _, d :: ds, [], i, _, .cons _ _, .nil, _, q => PySem.W.kat_nil q
  | v :: l1, u :: l2, d :: ds, e :: es, i, hb, .cons a r, .cons a2 r2, hc, q => by
    simp only [cpL, Bool.and_eq_true] at hc
    refine PySem.W.kat_cons (eqD_at n A v u d e hu a a2 hc.1 prog w _ _ ?_)
    refine PySem.W.kat_go (fun he => ?_) fun he => ?_
    · refine PySem.W.kat_yes (kat_rest hu l1 l2 ds es (i + 1) (.inr (Nat.succ_pos i)) r r2 hc.2 ?_)
      have e1 : lexR fin (d :: ds) (e :: es) = if eqD d e = true then lexR fin ds es else ltD d e := rfl
      rw [e1, if_pos he] at q
      exact q
    · refine PySem.W.kat_no ?_
      have e1 : lexR fin (d :: ds) (e :: es) = if eqD d e = true then lexR fin ds es else ltD d e := rfl
      rw [e1, if_neg (by rw [he]; decide)] at q
      have e2 : (b && i == 0) = false := by
        rcases hb with rfl | hb
        · rfl
        · rw [show (i == 0) = false by simp; omega, Bool.and_false]
      rw [e2]
      exact one_rc (ltD_at n A v u d e hu a a2 hc.1) q
theorem one_flat {v u : Value} {d e : PyData} {Q : Bool → Shared → Prop} {E : Value → Shared → Prop} (h1 : OdF v d) (h2 : OdF u e) (hc : cpb d e = true) (b : Bool) (q : Q (ltD d e) s) : wpAny (model prog w) A (oneLt' b v u) Q E s := by
  cases b with
  | false => exact one_rc (ltF_at h1 h2 hc) q
  | true =>
    rcases h1 with ⟨i, t, rfl, rfl⟩ | ⟨x, t, rfl, rfl⟩ <;> rcases h2 with ⟨j, w', rfl, rfl⟩ | ⟨y, w', rfl, rfl⟩
    · rw [show ltD (.int i) (.int j) = decide (i < j) by simp only [ltD]] at q
      exact oneLt_int q
    · simp [cpb] at hc
    · simp [cpb] at hc
    · rw [show ltD (.str x) (.str y) = decide (x.cps.toList < y.cps.toList) by simp only [ltD]] at q
      exact oneLt_str q
theorem kat_flat {b fin : Bool} {Q : Bool → Shared → Prop} (hu : A.units + n < cLine) {l1 l2 : List Value} {ds es : List PyData} (h1 : Paired (Od s.heap n) l1 ds) (h2 : Paired (Od s.heap n) l2 es) (hc : cpL ds es = true) (hf : ∀ d r, ds = d :: r → ∀ v, Od s.heap n v d → OdF v d) (hf2 : ∀ d r, es = d :: r → ∀ v, Od s.heap n v d → OdF v d) (q : Q (lexR fin ds es) s) : PySem.W.KatLex prog w A b fin Q (l1.zip l2) 0 s := by
  cases h1 with
  | nil => exact PySem.W.kat_nil (by cases es <;> exact q)
  | @cons v d l1 ds a r =>
    cases h2 with
    | nil => exact PySem.W.kat_nil q
    | @cons u e l2 es a2 r2 =>
      simp only [cpL, Bool.and_eq_true] at hc
      refine PySem.W.kat_cons (eqD_at n A v u d e hu a a2 hc.1 prog w _ _ ?_)
      have e1 : lexR fin (d :: ds) (e :: es) = if eqD d e = true then lexR fin ds es else ltD d e := rfl
      refine PySem.W.kat_go (fun he => ?_) fun he => ?_
      · rw [e1, if_pos he] at q
        exact PySem.W.kat_yes (kat_rest hu l1 l2 ds es 1 (.inr (by omega)) r r2 hc.2 q)
      · rw [e1, if_neg (by rw [he]; decide)] at q
        exact PySem.W.kat_no (one_flat (hf d ds rfl v a) (hf2 e es rfl u a2) hc.1 _ q)
/-- the data of a value -/
noncomputable def dvO (h : Heap) (n : Nat) (v : Value) : PyData := @dite _ (∃ d, Od h n v d) (Classical.propDecidable _) (fun q => q.choose) fun _ => .none
theorem dvO_eq {h : Heap} {v : Value} {d : PyData} (q : Od h n v d) : dvO h n v = d := by
  unfold dvO
  rw [dif_pos ⟨d, q⟩]
  exact od_fun (Exists.choose_spec (⟨d, q⟩ : ∃ d, Od h n v d)) q
theorem paired_mem {α β : Type} {F : α → β → Prop} : ∀ {l : List α} {m : List β}, Paired F l m → ∀ a ∈ l, ∃ b ∈ m, F a b
  | _, _, .nil, a, h => by cases h
  | _, _, .cons q r, a, h => by
    rcases List.mem_cons.mp h with rfl | h
    · exact ⟨_, List.mem_cons_self, q⟩
    · obtain ⟨b, hb, hf⟩ := paired_mem r a h
      exact ⟨b, List.mem_cons_of_mem _ hb, hf⟩
theorem od_int {h : Heap} {v : Value} {i : Int} (q : Od h n v (.int i)) : ∃ t, v = .int i t := by
  cases n with
  | zero => rcases q with ⟨j, t, rfl, e⟩ | ⟨x, t, rfl, e⟩ <;> cases e; exact ⟨t, rfl⟩
  | succ n =>
    rcases q with q | ⟨a, items, ds, _, e, _⟩
    · rcases q with ⟨j, t, rfl, e⟩ | ⟨x, t, rfl, e⟩ <;> cases e; exact ⟨t, rfl⟩
    · cases e
theorem od_str {h : Heap} {v : Value} {x : Str} (q : Od h n v (.str x)) : ∃ t, v = .str x t := by
  cases n with
  | zero => rcases q with ⟨j, t, rfl, e⟩ | ⟨x, t, rfl, e⟩ <;> cases e; exact ⟨t, rfl⟩
  | succ n =>
    rcases q with q | ⟨a, items, ds, _, e, _⟩
    · rcases q with ⟨j, t, rfl, e⟩ | ⟨x, t, rfl, e⟩ <;> cases e; exact ⟨t, rfl⟩
    · cases e
theorem od_tup {h : Heap} {v : Value} {ds : List PyData} (q : Od h n v (.tuple ds)) : ∃ m a items, n = m + 1 ∧ v = .ref a ∧ h.IsTuple a items ∧ Paired (Od h m) items.toList ds := by
  cases n with
  | zero => rcases q with ⟨j, t, rfl, e⟩ | ⟨x, t, rfl, e⟩ <;> cases e
  | succ n =>
    rcases q with q | ⟨a, items, ds, rfl, e, hi, q⟩
    · rcases q with ⟨j, t, rfl, e⟩ | ⟨x, t, rfl, e⟩ <;> cases e
    · cases e
      exact ⟨n, a, items, rfl, rfl, hi, q⟩
theorem intsAre_pd {h : Heap} : ∀ {vs : List Value} {ds : List PyData}, Paired (Od h n) vs ds → (∀ d ∈ ds, ∃ i, d = .int i) → ∃ ns, IntsAre vs ns
  | _, _, .nil, _ => ⟨[], .nil⟩
  | _, _, .cons a r, hd => by
    obtain ⟨i, rfl⟩ := hd _ List.mem_cons_self
    obtain ⟨t, rfl⟩ := od_int a
    obtain ⟨ns, hn⟩ := intsAre_pd r fun d h => hd d (List.mem_cons_of_mem _ h)
    exact ⟨i :: ns, .cons i t hn⟩
theorem strsAre_pd {h : Heap} : ∀ {vs : List Value} {ds : List PyData}, Paired (Od h n) vs ds → (∀ d ∈ ds, ∃ x, d = .str x) → ∃ ns, StrsAre vs ns
  | _, _, .nil, _ => ⟨[], .nil⟩
  | _, _, .cons a r, hd => by
    obtain ⟨i, rfl⟩ := hd _ List.mem_cons_self
    obtain ⟨t, rfl⟩ := od_str a
    obtain ⟨ns, hn⟩ := strsAre_pd r fun d h => hd d (List.mem_cons_of_mem _ h)
    exact ⟨i :: ns, .cons i t hn⟩
/-- the first parts -/
theorem firsts_pd {h : Heap} {F : PyData → Prop} : ∀ {vs : List Value} {ds : List PyData}, Paired (Od h (n + 1)) vs ds → (∀ d ∈ ds, ∃ e es, d = .tuple (e :: es) ∧ F e) → ∃ fs, PySem.W.KatTups h vs fs ∧ fs.length = vs.length ∧ ∀ f ∈ fs, ∃ e, F e ∧ Od h n f e
  | _, _, .nil, _ => ⟨[], .nil, rfl, fun f h => by cases h⟩
  | _, _, .cons a r, hd => by
    obtain ⟨e, es, rfl, hF⟩ := hd _ List.mem_cons_self
    obtain ⟨m, b, items, e1, rfl, ⟨o, ho, hc, k, hdt⟩, q⟩ := od_tup a
    cases e1
    obtain ⟨fs, h1, h2, h3⟩ := firsts_pd r fun d h => hd d (List.mem_cons_of_mem _ h)
    obtain ⟨its⟩ := items
    cases q with
    | @cons f e l es q1 q2 =>
      refine ⟨f :: fs, .cons ho hc hdt (by simp) h1, by rw [List.length_cons, List.length_cons, h2], fun g hg => ?_⟩
      rcases List.mem_cons.mp hg with rfl | hg
      · exact ⟨e, hF, q1⟩
      · exact h3 g hg
theorem od_sortable {a : Addr} {vs : List Value} {ds : List PyData} (hu : A.units + n < cLine) (hp : Paired (Od s.heap n) vs ds) (hs : Srb ds) (h2 : 2 ≤ vs.length) (ha : ∀ o, s.heap.get? a = some o → o.cls ≠ .type "tuple") : SrtO.SortableO prog w A s a vs fun v u => ltC (dvO s.heap n v) (dvO s.heap n u) := by
  intro h' keep
  have keepT : ∀ b o, s.heap.get? b = some o → o.cls = .type "tuple" → h'.get? b = some o := fun b o e c => keep b o (fun z => by subst z; exact ha o e c) e
  have hp' : Paired (Od h' n) vs ds := paired_mono hp fun v d q => q.keep keepT
  have both : ∀ v ∈ vs, ∃ d ∈ ds, Od h' n v d ∧ dvO s.heap n v = d := fun v hv => by
    obtain ⟨d, hd, q⟩ := paired_mem hp v hv
    exact ⟨d, hd, q.keep keepT, dvO_eq q⟩
  obtain ⟨k, hk0, hk⟩ := hs.k
  have hkd : ∀ d ∈ ds, _ := fun d hd => fk_cases (hk d hd) hk0
  have hne : ∃ d, d ∈ ds := by
    have := (paired_at hp).1
    cases ds with
    | nil => simp at this; rw [this] at h2; simp at h2
    | cons d _ => exact ⟨d, List.mem_cons_self⟩
  have hcmpF : (∀ d ∈ ds, ∀ v, Od h' n v d → OdF v d) → SrtO.Cmp prog w A { s with heap := h' } oneType' (fun p => p.1 ∈ vs) (SrtO.lt2 fun v u => ltC (dvO s.heap n v) (dvO s.heap n u)) := fun hfl p q hm hm' => by
    obtain ⟨d, hd, q1, e1⟩ := both _ hm
    obtain ⟨e, he, q2, e2⟩ := both _ hm'
    have hc := hs.c d hd e he
    show wpAny (model prog w) A (keyLt' oneType' p.1 q.1) (fun r s' => s' = { s with heap := h' } ∧ r = ltC (dvO s.heap n p.1) (dvO s.heap n q.1)) (fun _ _ => False) { s with heap := h' }
    rw [e1, e2, ltC_ltD hc, keyLt'_oneType]
    exact one_flat (s := { s with heap := h' }) (hfl d hd _ q1) (hfl e he _ q2) hc true ⟨rfl, rfl⟩
  have hcmpT : ∀ b : Bool, (∀ d ∈ ds, ∃ e es, d = .tuple (e :: es) ∧ (b = true → ∀ m v, Od h' m v e → OdF v e)) → SrtO.Cmp prog w A { s with heap := h' } (tuples' b) (fun p => p.1 ∈ vs) (SrtO.lt2 fun v u => ltC (dvO s.heap n v) (dvO s.heap n u)) := fun b hfl p q hm hm' => by
    obtain ⟨d, hd, q1, e1⟩ := both _ hm
    obtain ⟨e, he, q2, e2⟩ := both _ hm'
    have hc := hs.c d hd e he
    show wpAny (model prog w) A (keyLt' (tuples' b) p.1 q.1) (fun r s' => s' = { s with heap := h' } ∧ r = ltC (dvO s.heap n p.1) (dvO s.heap n q.1)) (fun _ _ => False) { s with heap := h' }
    rw [e1, e2, ltC_ltD hc]
    obtain ⟨d1, dr, rfl, hfd⟩ := hfl d hd
    obtain ⟨e1', er, rfl, hfe⟩ := hfl e he
    obtain ⟨m, a1, its1, hn1, ev1, ⟨o1, ho1, hc1, k1, hd1⟩, p1⟩ := od_tup q1
    obtain ⟨m2, a2, its2, hn2, ev2, ⟨o2, ho2, hc2, k2, hd2⟩, p2⟩ := od_tup q2
    obtain rfl : m = m2 := by omega
    rw [ev1, ev2]
    simp only [cpb] at hc
    have l1 : its1.size = (d1 :: dr).length := by rw [← (paired_at p1).1]; simp
    have l2 : its2.size = (e1' :: er).length := by rw [← (paired_at p2).1]; simp
    have hfin : (fun r s' => s' = { s with heap := h' } ∧ r = ltD (.tuple (d1 :: dr)) (.tuple (e1' :: er)) : Bool → Shared → Prop) (lexR (decide (its1.size < its2.size)) (d1 :: dr) (e1' :: er)) { s with heap := h' } := by
      refine ⟨rfl, ?_⟩
      rw [l1, l2, lexR_ltL]
      simp only [ltD]
    refine PySem.W.kat_lt (s := { s with heap := h' }) ho1 hd1 ho2 hd2 ?_
    cases b with
    | false => exact kat_rest (s := { s with heap := h' }) (n := m) (by omega) _ _ _ _ 0 (.inl rfl) p1 p2 hc hfin
    | true =>
      exact kat_flat (s := { s with heap := h' }) (n := m) (by omega) p1 p2 hc (fun d r e v q => by cases e; exact hfd rfl m v q) (fun d r e v q => by cases e; exact hfe rfl m v q) hfin
  obtain ⟨d0, hd0⟩ := hne
  have hflI : ∀ (i : Int) (m : Nat) (v : Value), Od h' m v (.int i) → OdF v (.int i) := fun i m v q => by
    obtain ⟨t, rfl⟩ := od_int q
    exact .inl ⟨i, t, rfl, rfl⟩
  have hflS : ∀ (x : Str) (m : Nat) (v : Value), Od h' m v (.str x) → OdF v (.str x) := fun x m v q => by
    obtain ⟨t, rfl⟩ := od_str q
    exact .inr ⟨x, t, rfl, rfl⟩
  have kk : ∀ {T : Value} {F : PyData → Prop}, (∀ d ∈ ds, ∃ e es, d = .tuple (e :: es) ∧ F e) → (∀ m f e, F e → Od h' m f e → PySem.W.Looks (model prog w) h' (typeOf f) T) → (T == T) = true → ∀ (Q : SortKind → Shared → Prop) (E : Value → Shared → Prop), Q (tuples' (T != Value.type "tuple")) { s with heap := h' } → wpAny (model prog w) A (keyKind' vs.toArray) Q E { s with heap := h' } := fun {T F} hF hT hTT Q E hq => by
    obtain ⟨e0, es0, rfl, _⟩ := hF d0 hd0
    obtain ⟨v0, hv0⟩ : ∃ v, v ∈ vs := by
      cases vs with
      | nil => simp at h2
      | cons v _ => exact ⟨v, List.mem_cons_self⟩
    obtain ⟨d1, hd1, q1, _⟩ := both v0 hv0
    obtain ⟨e1, es1, rfl, _⟩ := hF d1 hd1
    obtain ⟨m, _, _, rfl, _⟩ := od_tup q1
    obtain ⟨fs, h3, h4, h5⟩ := firsts_pd hp' hF
    exact PySem.W.kat_kind (s := { s with heap := h' }) h3 (by omega) (fun f hf => by
      obtain ⟨e, he, qe⟩ := h5 f hf
      exact hT m f e he qe) hTT hq
  rcases hkd d0 hd0 with ⟨rfl, _⟩ | ⟨rfl, _⟩ | ⟨rfl, _⟩ | ⟨rfl, _⟩ | ⟨rfl, _⟩
  · have hI : ∀ d ∈ ds, ∃ i, d = .int i := fun d hd => by
      rcases hkd d hd with ⟨e, i, h⟩ | ⟨e, _⟩ | ⟨e, _⟩ | ⟨e, _⟩ | ⟨e, _⟩
      · exact ⟨i, h⟩
      all_goals exact absurd e (by decide)
    refine ⟨oneType', fun Q E hq => ?_, hcmpF fun d hd v q => by obtain ⟨i, rfl⟩ := hI d hd; exact hflI i _ v q⟩
    obtain ⟨ns, hn⟩ := intsAre_pd hp hI
    match vs, hn, h2 with
    | v1 :: v2 :: rest, hn, _ =>
      rw [keyKind_ints hn]
      exact wpAny_pure hq
    | [], _, h => exact absurd h (by decide)
    | [v], _, h => exact absurd h (by simp)
  · have hI : ∀ d ∈ ds, ∃ i, d = .str i := fun d hd => by
      rcases hkd d hd with ⟨e, _⟩ | ⟨e, i, h⟩ | ⟨e, _⟩ | ⟨e, _⟩ | ⟨e, _⟩
      · exact absurd e (by decide)
      · exact ⟨i, h⟩
      all_goals exact absurd e (by decide)
    refine ⟨oneType', fun Q E hq => ?_, hcmpF fun d hd v q => by obtain ⟨i, rfl⟩ := hI d hd; exact hflS i _ v q⟩
    obtain ⟨ns, hn⟩ := strsAre_pd hp hI
    match vs, hn, h2 with
    | v1 :: v2 :: rest, hn, _ =>
      rw [keyKind_strs hn]
      exact wpAny_pure hq
    | [], _, h => exact absurd h (by decide)
    | [v], _, h => exact absurd h (by simp)
  · have hI : ∀ d ∈ ds, ∃ e es, d = .tuple (e :: es) ∧ ∃ i, e = PyData.int i := fun d hd => by
      rcases hkd d hd with ⟨e, _⟩ | ⟨e, _⟩ | ⟨_, i, es, h⟩ | ⟨e, _⟩ | ⟨e, _⟩
      · exact absurd e (by decide)
      · exact absurd e (by decide)
      · exact ⟨_, es, h, i, rfl⟩
      all_goals exact absurd e (by decide)
    refine ⟨tuples' true, fun Q E hq => kk (T := .type "int") hI (fun m f e ⟨i, he⟩ q => by subst he; obtain ⟨t, rfl⟩ := od_int q; exact PySem.W.Looks.now) (by rfl) Q E ?_, hcmpT true fun d hd => by obtain ⟨e, es, h, i, rfl⟩ := hI d hd; exact ⟨_, es, h, fun _ m v q => hflI i m v q⟩⟩
    have e : (Value.type "int" != Value.type "tuple") = true := by first | decide +kernel | rfl | decide
    rw [e]
    exact hq
  · have hI : ∀ d ∈ ds, ∃ e es, d = .tuple (e :: es) ∧ ∃ i, e = PyData.str i := fun d hd => by
      rcases hkd d hd with ⟨e, _⟩ | ⟨e, _⟩ | ⟨e, _⟩ | ⟨_, i, es, h⟩ | ⟨e, _⟩
      · exact absurd e (by decide)
      · exact absurd e (by decide)
      · exact absurd e (by decide)
      · exact ⟨_, es, h, i, rfl⟩
      all_goals exact absurd e (by decide)
    refine ⟨tuples' true, fun Q E hq => kk (T := .type "str") hI (fun m f e ⟨i, he⟩ q => by subst he; obtain ⟨t, rfl⟩ := od_str q; exact PySem.W.Looks.now) (by rfl) Q E ?_, hcmpT true fun d hd => by obtain ⟨e, es, h, i, rfl⟩ := hI d hd; exact ⟨_, es, h, fun _ m v q => hflS i m v q⟩⟩
    have e : (Value.type "str" != Value.type "tuple") = true := by first | decide +kernel | rfl | decide
    rw [e]
    exact hq
  · have hI : ∀ d ∈ ds, ∃ e es, d = .tuple (e :: es) ∧ ∃ i, e = PyData.tuple i := fun d hd => by
      rcases hkd d hd with ⟨e, _⟩ | ⟨e, _⟩ | ⟨e, _⟩ | ⟨e, _⟩ | ⟨_, i, es, h⟩
      · exact absurd e (by decide)
      · exact absurd e (by decide)
      · exact absurd e (by decide)
      · exact absurd e (by decide)
      · exact ⟨_, es, h, i, rfl⟩
    refine ⟨tuples' false, fun Q E hq => kk (T := .type "tuple") hI (fun m f e ⟨i, he⟩ q => by
      subst he
      obtain ⟨_, a, its, _, rfl, ⟨o, ho, hc, _⟩, _⟩ := od_tup q
      have this : PySem.W.Looks (model prog w) h' (typeOf (.ref a)) o.cls := (PySem.W.Looks.ld ho).andThen .now
      rw [hc] at this
      exact this) (by rfl) Q E ?_, hcmpT false fun d hd => by obtain ⟨e, es, h, i, rfl⟩ := hI d hd; exact ⟨_, es, h, fun hb => by cases hb⟩⟩
    have e : (Value.type "tuple" != Value.type "tuple") = false := by first | decide +kernel | rfl | decide
    rw [e]
    exact hq
end
end Dl

namespace Dl
open PySem PySem.Spec L2
open PyProof.Rows hiding St
/-! ### sorted of plain data -/
/-- ints, texts, tuples of such, of a depth -/
def Ody : Nat → PyData → Prop
  | _, .int _ => True
  | _, .str _ => True
  | n + 1, .tuple ds => ∀ d ∈ ds, Ody n d
  | _, _ => False
theorem dq_od {X : Cy} {pins : List (Addr × Obj)} {σ : St} {H : Hp} {s : Shared} (I : Inv X pins σ H s) (n : Nat) : ∀ {v : V} {d : PyData} {u : Value}, Ody n d → Dq X.K H v d → RelV v u → Od s.heap n u d := by
  induction n with
  | zero =>
    intro v d u hy h r
    cases h with
    | int i =>
      obtain ⟨t, rfl⟩ := r
      exact .inl ⟨i, t, rfl, rfl⟩
    | str x =>
      obtain ⟨t, rfl⟩ := r
      exact .inr ⟨x, t, rfl, rfl⟩
    | _ => exact (show False from hy).elim
  | succ n ih =>
    intro v d u hy h r
    cases h with
    | int i =>
      obtain ⟨t, rfl⟩ := r
      exact .inl (.inl ⟨i, t, rfl, rfl⟩)
    | str x =>
      obtain ⟨t, rfl⟩ := r
      exact .inl (.inr ⟨x, t, rfl, rfl⟩)
    | @tup a xs ds hp hs =>
      cases r
      obtain ⟨its, rv, ⟨o, k, ho, hc, _, hd⟩, _⟩ := hp.plain I
      refine .inr ⟨a, its.toArray, ds, rfl, rfl, ⟨o, ho, hc, k, hd⟩, ?_⟩
      have hy : ∀ d ∈ ds, Ody n d := hy
      have go : ∀ (us : List Value) (xs : List V) (ds : List PyData), DqAll X.K H xs ds → Vals xs us → (∀ d ∈ ds, Ody n d) → Paired (Od s.heap n) us ds := fun us => by
        induction us with
        | nil =>
          intro xs ds h1 h2 _
          cases h2
          cases h1
          exact .nil
        | cons u us ih2 =>
          intro xs ds h1 h2 h3
          cases h2 with
          | cons r1 r2 =>
            cases h1 with
            | cons q1 q2 => exact .cons (ih (h3 _ List.mem_cons_self) q1 r1) (ih2 _ _ q2 r2 fun d hd => h3 d (List.mem_cons_of_mem _ hd))
      exact go its xs ds hs rv hy
    | _ => exact (show False from hy).elim
/-- a value of the kinds at hand -/
def bkO : Value → V
  | .int i _ => .int i
  | .str x _ => .str x
  | .ref a => .ref a
  | _ => .non
theorem bkO_ok {K : PySem.W.Frag} {H : Hp} {n : Nat} {v : V} {d : PyData} {u : Value} (hy : Ody n d) (h : Dq K H v d) (r : RelV v u) : v = bkO u ∧ RelV (bkO u) u := by
  cases h with
  | int i =>
    obtain ⟨t, rfl⟩ := r
    exact ⟨rfl, ⟨t, rfl⟩⟩
  | str x =>
    obtain ⟨t, rfl⟩ := r
    exact ⟨rfl, ⟨t, rfl⟩⟩
  | tup h1 h2 =>
    cases r
    exact ⟨rfl, rfl⟩
  | lst h1 h2 =>
    cases r
    exact ⟨rfl, rfl⟩
  | dic h1 h2 h3 =>
    cases r
    exact ⟨rfl, rfl⟩
  | non => cases n <;> exact hy.elim
  | bl b => cases n <;> exact hy.elim
structure Trip (K : PySem.W.Frag) (H S : Hp) (h : Heap) (n : Nat) (u : Value) (d : PyData) : Prop where
  q : Dq K S (bkO u) d
  r : RelV (bkO u) u
  o : Od h n u d
theorem trips {X : Cy} {pins : List (Addr × Obj)} {σ : St} {H S : Hp} {s : Shared} (I : Inv X pins σ H s) (e : Same S H) {n : Nat} : ∀ {xs : List V} {ds : List PyData} {us : List Value}, DqAll X.K S xs ds → Vals xs us → (∀ d ∈ ds, Ody n d) → Paired (Trip X.K H S s.heap n) us ds
  | _, _, _, .nil, .nil, _ => .nil
  | _, _, _, .cons q1 q2, .cons r1 r2, hy => by
    have h1 := bkO_ok (hy _ List.mem_cons_self) q1 r1
    exact .cons ⟨by rw [← h1.1]; exact q1, h1.2, dq_od I n (hy _ List.mem_cons_self) (Dp_mono e q1) r1⟩ (trips I e q2 r2 fun d hd => hy d (List.mem_cons_of_mem _ hd))
theorem map_dvO {K : PySem.W.Frag} {H S : Hp} {h : Heap} {n : Nat} : ∀ {us : List Value} {ds : List PyData}, Paired (Trip K H S h n) us ds → us.map (dvO h n) = ds
  | _, _, .nil => rfl
  | _, _, .cons q r => by rw [List.map_cons, dvO_eq q.o, map_dvO r]
/-- what sorting makes of such values -/
theorem sort_out {K : PySem.W.Frag} {H S : Hp} {h : Heap} {n : Nat} {us out : List Value} {ds : List PyData} (hp : Paired (Trip K H S h n) us ds) (h1 : SrtO.Srtd (fun v u => ltC (dvO h n v) (dvO h n u)) out) (h2 : SrtO.Stb (fun v u => ltC (dvO h n v) (dvO h n u)) out us) : Paired (Trip K H S h n) out (sortD ds) := by
  have e : out.map (dvO h n) = sortD ds := by
    refine sortD_uniq (List.pairwise_map.mpr h1) ?_
    rw [← map_dvO hp]
    exact SrtO.Stb.map ltC_swo (dvO h n) h2
  rw [← e]
  have hm : ∀ u ∈ out, Trip K H S h n u (dvO h n u) := fun u hu => by
    obtain ⟨d, _, q⟩ := paired_mem hp u (h2.perm.mem_iff.mp hu)
    rw [dvO_eq q.o]
    exact q
  clear h1 h2 e
  induction out with
  | nil => exact .nil
  | cons u out ih => exact .cons (hm u List.mem_cons_self) (ih fun v hv => hm v (List.mem_cons_of_mem _ hv))
theorem trips_dq {K : PySem.W.Frag} {H S : Hp} {h : Heap} {n : Nat} : ∀ {us : List Value} {ds : List PyData}, Paired (Trip K H S h n) us ds → DqAll K S (us.map bkO) ds ∧ Vals (us.map bkO) us
  | _, _, .nil => ⟨.nil, .nil⟩
  | _, _, .cons q r => ⟨.cons q.q (trips_dq r).1, .cons q.r (trips_dq r).2⟩
section
variable {X : Cy} {z : Z} {Q : Sl → Z → Prop}
/-- sorted(xs), xs plain data of one kind -/
def rSortPl (X : Cy) (n : Nat) (S : Hp) : List V → Hp → VK → Prop := fun vs H Q => ∃ (a : Addr) (xs : List V) (ds : List PyData), vs = [.ref a] ∧ SqL X.K H a xs ∧ DqAll X.K S xs ds ∧ Same S H ∧ (∀ d ∈ ds, Ody n d) ∧ Srb ds ∧
  ∀ (p : Addr) (ys : List V), H p = none → DqAll X.K S ys (sortD ds) → Q (.ref p) (upd H p (.lst ys))
theorem cr_sortPl {n : Nat} {S : Hp} (hu : X.A.units + n + 2 < cLine) : CallR X (.builtin "sorted") (rSortPl X n S) := by
  intro pins s σ H vs us Q I rv h
  obtain ⟨a, xs, ds, rfl, hs, hq, hsame, hy, hsb, q⟩ := h
  obtain ⟨its, rx, hl, hz⟩ := I.list hs
  obtain ⟨u, rfl, ru⟩ := vals1 rv
  obtain rfl : u = Value.ref a := ru
  have tr := trips I hsame hq rx hy
  have od : Paired (Od s.heap n) its ds := paired_mono tr fun _ _ t => t.o
  have lw : (SrtO.Swo fun v u => ltC (dvO s.heap n v) (dvO s.heap n u)) := ⟨fun x y h => ltC_swo.asym _ _ h, fun x y z h1 h2 => ltC_swo.tr _ _ _ h1 h2⟩
  refine SrtO.sorted_ord lw hl.isList (by rw [← rx.length]; exact hz) (fun h2 h₁ a' ha kk => ?_) fun out h1 h2 => ?_
  · have od1 : Paired (Od h₁ n) its ds := paired_mono od fun _ _ t => t.keep fun b o e _ => (kk b o e).2
    have := od_sortable (s := { s with heap := h₁ }) (a := a') (A := X.A.in1.in1) (prog := X.prog) (w := X.w) (n := n) (by show X.A.units + 1 + 1 + n < cLine; omega) od1 hsb h2 fun o e => by
      have e' : some o = some (seqObj "list" its.toArray 0) := e.symm.trans ha
      cases e'
      intro c
      exact absurd (Value.type.inj c) (by decide)
    have ee : ∀ v ∈ its, dvO h₁ n v = dvO s.heap n v := fun v hv => by
      obtain ⟨d, _, t⟩ := paired_mem od v hv
      rw [dvO_eq t, dvO_eq (t.keep fun b o e _ => (kk b o e).2)]
    intro h' keep
    obtain ⟨κ, k1, k2⟩ := this h' keep
    refine ⟨κ, k1, fun p q hp hq => ?_⟩
    have k3 := k2 p q hp hq
    have e4 : SrtO.lt2 (fun v u => ltC (dvO h₁ n v) (dvO h₁ n u)) p q = SrtO.lt2 (fun v u => ltC (dvO s.heap n v) (dvO s.heap n u)) p q := by
      show ltC (dvO h₁ n p.1) (dvO h₁ n q.1) = ltC (dvO s.heap n p.1) (dvO s.heap n q.1)
      rw [ee _ hp, ee _ hq]
    rw [← e4]
    exact k3
  · have so := sort_out tr h1 h2
    obtain ⟨hn1, hv1⟩ := trips_dq so
    obtain ⟨nn, hn⟩ := sortedAll_at s.heap its out.toArray
    have hd : s.heap.objs.size ≤ s.heap.objs.size + 1 := Nat.le_succ _
    refine ⟨.ref (s.heap.objs.size + 1), upd H (s.heap.objs.size + 1) (.lst (out.map bkO)), I.laid (t' := s.toks) (fun b o e => sortedAll_old e) hd ⟨?_, out, nn, hv1, hn⟩, rfl, q _ _ (I.hok.fresh hd) hn1⟩
    rw [List.length_map, h2.perm.length_eq, ← rx.length]
    exact hz
theorem cd_sortL (n : Nat) {ds : List PyData} (hu : X.A.units + n + 2 < cLine) (hy : ∀ d ∈ ds, Ody n d) (hs : Srb ds) (h : Q (.sh (.list (sortD ds))) z) : CD X (.builtin "sorted") [.sh (.list ds)] z Q := fun c w σ vs k b rr hkk => by
  obtain ⟨v, rfl, r⟩ := p1 rr
  obtain ⟨a, xs, rfl, hr, s1⟩ := Dp_lstI r
  exact cB_of (cr_sortPl (S := w.S) hu) ⟨a, xs, ds, rfl, .inl (Same.rd b.same hr), s1, b.same, hy, hs, fun p ys hp hq => new_lstF b hq hkk h p hp⟩
theorem cd_sortLO (n : Nat) {ds : List PyData} (hu : X.A.units + n + 2 < cLine) (hy : ∀ d ∈ ds, Ody n d) (hs : Srb ds) (h : Q (.ob z.ob.length) ⟨z.sl, z.ob ++ [.lst ((sortD ds).map .sh)]⟩) : CD X (.builtin "sorted") [.sh (.list ds)] z Q := fun c w σ vs k b rr hkk => by
  obtain ⟨v, rfl, r⟩ := p1 rr
  obtain ⟨a, xs, rfl, hr, s1⟩ := Dp_lstI r
  exact cB_of (cr_sortPl (S := w.S) hu) ⟨a, xs, ds, rfl, .inl (Same.rd b.same hr), s1, b.same, hy, hs, fun p ys hp hq => new_lst b (dp_allSh hq) hkk h p hp⟩
end
end Dl

namespace Dl
open PySem PySem.Spec L2
open PyProof.Rows hiding St
/-! ### dicts whose keys are tuples -/
def hshW (w : World) : NestedKey → Int := fun k => k.hash w
/-- the dict of such pairs -/
def tkO (hf : NestedKey → Int) (kvs : List (NestedKey × Sl)) : OO := .dt hf (kvs.map (·.1)) (kvs.map (·.2))
def TKV (K : PySem.W.Frag) (w : Wd) : List (NestedKey × Addr × Value) → List (NestedKey × Sl) → Prop := Paired fun x kv => x.1 = kv.1 ∧ VdR K w x kv.2
theorem TKV.of {K : PySem.W.Frag} {w : Wd} : ∀ {xs : List (NestedKey × Addr × Value)} {kvs : List (NestedKey × Sl)}, kvs.map (·.1) = xs.map (·.1) → Paired (VdR K w) xs (kvs.map (·.2)) → TKV K w xs kvs
  | [], [], _, _ => .nil
  | [], _ :: _, h, _ => by cases h
  | _ :: _, [], h, _ => by cases h
  | x :: xs, kv :: kvs, h, h2 => by
    rw [List.map_cons, List.map_cons] at h
    rw [List.map_cons] at h2
    injection h with h3 h4
    cases h2 with
    | cons q r => exact .cons ⟨h3.symm, q⟩ (TKV.of h4 r)
theorem TKV.snd {K : PySem.W.Frag} {w : Wd} : ∀ {xs : List (NestedKey × Addr × Value)} {kvs : List (NestedKey × Sl)}, TKV K w xs kvs → kvs.map (·.1) = xs.map (·.1) ∧ Paired (VdR K w) xs (kvs.map (·.2))
  | _, _, .nil => ⟨rfl, .nil⟩
  | _, _, .cons q r => by
    obtain ⟨h1, h2⟩ := TKV.snd r
    exact ⟨by rw [List.map_cons, List.map_cons, h1, q.1], .cons q.2 h2⟩
theorem TKV.val {K : PySem.W.Frag} {w : Wd} (k : NestedKey) : ∀ {xs : List (NestedKey × Addr × Value)} {kvs : List (NestedKey × Sl)}, TKV K w xs kvs → (atKey xs k = none ∧ valG kvs k = none) ∨ ∃ p y v, atKey xs k = some p ∧ valG kvs k = some y ∧ RelV v p.2 ∧ Vl K w v y
  | _, _, .nil => .inl ⟨rfl, rfl⟩
  | x :: xs, kv :: kvs, .cons q r => by
    by_cases e : x.1 = k
    · obtain ⟨_, _, v, hv, hl⟩ := q.2
      exact .inr ⟨x.2, kv.2, v, by simp [atKey, List.find?_cons, e], by simp [valG, List.find?_cons, ← q.1, e], hv, hl⟩
    · have e' : ¬ kv.1 = k := by rw [← q.1]; exact e
      have h1 : atKey (x :: xs) k = atKey xs k := by simp [atKey, List.find?_cons, e]
      have h2 : valG (kv :: kvs) k = valG kvs k := by simp [valG, List.find?_cons, e']
      rw [h1, h2]
      exact TKV.val k r
theorem TKV.any {K : PySem.W.Frag} {w : Wd} {xs : List (NestedKey × Addr × Value)} {kvs : List (NestedKey × Sl)} (h : TKV K w xs kvs) (k : NestedKey) : (atKey xs k).isSome = (kvs.any fun kv => decide (kv.1 = k)) := by
  unfold TKV at h
  induction h with
  | nil => rfl
  | @cons x kv xs kvs q r ih =>
    by_cases e : x.1 = k
    · have e' : kv.1 = k := by rw [← q.1]; exact e
      simp [atKey, List.find?_cons, e, e']
    · have e' : ¬ kv.1 = k := by rw [← q.1]; exact e
      have h1 : atKey (x :: xs) k = atKey xs k := by simp [atKey, List.find?_cons, e]
      rw [h1, ih, List.any_cons, decide_eq_false e', Bool.false_or]
theorem TKV.put {K : PySem.W.Frag} {w : Wd} {xs : List (NestedKey × Addr × Value)} {kvs : List (NestedKey × Sl)} (h : TKV K w xs kvs) {k : NestedKey} {b : Addr} {r : Value} {v : V} {y : Sl} (hk : Dq K w.S (.ref b) k.data) (hd : k.depth ≤ 8) (hr : RelV v r) (hy : Vl K w v y) : TKV K w (storedH xs k b r) (putG kvs k y) := by
  unfold storedH putG
  rw [h.any k]
  split
  · rename_i hc
    clear hc
    unfold TKV at h ⊢
    induction h with
    | nil => exact .nil
    | @cons x kv xs kvs q _ ih =>
      rw [List.map_cons, List.map_cons]
      refine .cons ?_ ih
      unfold putAt
      by_cases e : x.1 = k
      · rw [if_pos e, if_pos (by rw [← q.1]; exact e)]
        exact ⟨q.1, q.2.1, q.2.2.1, v, hr, hy⟩
      · rw [if_neg e, if_neg (by rw [← q.1]; exact e)]
        exact q
  · exact paired_app h (.cons ⟨rfl, hk, hd, v, hr, hy⟩ .nil)
theorem TKV.len {K : PySem.W.Frag} {w : Wd} {xs : List (NestedKey × Addr × Value)} {kvs : List (NestedKey × Sl)} (h : TKV K w xs kvs) : xs.length = kvs.length := Paired.length h
theorem tk_at {K : PySem.W.Frag} {w : Wd} {p : Addr} {hf : NestedKey → Int} {kvs : List (NestedKey × Sl)} (h : Ob K w p (tkO hf kvs)) : w.S p = none ∧ ∃ xs, w.H p = some (DTO hf p xs) ∧ (xs.map (·.1)).Nodup ∧ TKV K w xs kvs := by
  obtain ⟨hS, xs, hH, hk, hn, hv⟩ := h
  exact ⟨hS, xs, hH, by rw [← hk]; exact hn, TKV.of hk hv⟩
theorem tk_ob {K : PySem.W.Frag} {w : Wd} {p : Addr} {hf : NestedKey → Int} {kvs : List (NestedKey × Sl)} {xs : List (NestedKey × Addr × Value)} (hS : w.S p = none) (hH : w.H p = some (DTO hf p xs)) (hn : (xs.map (·.1)).Nodup) (h : TKV K w xs kvs) : Ob K w p (tkO hf kvs) :=
  ⟨hS, xs, hH, h.snd.1, by rw [h.snd.1]; exact hn, h.snd.2⟩
/-! keys of data -/
theorem nested_is {X : Cy} {pins : List (Addr × Obj)} {σ : St} {H : Hp} {s : Shared} (I : Inv X pins σ H s) (n : Nat) : ∀ (k : NestedKey) {v : V} {u : Value}, k.depth ≤ n → Dq X.K H v k.data → RelV v u → NestedIs s.heap k u := by
  induction n with
  | zero =>
    intro k v u hk h r
    cases k with
    | none =>
      simp only [NestedKey.data] at h
      cases h
      cases r
      exact .none
    | num i =>
      simp only [NestedKey.data] at h
      cases h
      obtain ⟨t, rfl⟩ := r
      exact .int i t
    | text x =>
      simp only [NestedKey.data] at h
      cases h
      obtain ⟨t, rfl⟩ := r
      exact .text x t
    | tup ks =>
      simp only [NestedKey.depth] at hk
      omega
  | succ n ih =>
    intro k v u hk h r
    cases k with
    | none =>
      simp only [NestedKey.data] at h
      cases h
      cases r
      exact .none
    | num i =>
      simp only [NestedKey.data] at h
      cases h
      obtain ⟨t, rfl⟩ := r
      exact .int i t
    | text x =>
      simp only [NestedKey.data] at h
      cases h
      obtain ⟨t, rfl⟩ := r
      exact .text x t
    | tup ks =>
      simp only [NestedKey.data] at h
      simp only [NestedKey.depth] at hk
      generalize hds : NestedKey.datas ks = ds at h
      cases h with
      | @tup a xs _ hp hs =>
        cases r
        obtain ⟨its, rv, ⟨o, j, ho, hc, _, hd⟩, _⟩ := hp.plain I
        refine .tup ho hc hd ?_
        have go : ∀ (ks : List NestedKey) (xs : List V) (us : List Value), NestedKey.depthAll ks ≤ n → DqAll X.K H xs (NestedKey.datas ks) → Vals xs us → NestedAll s.heap ks us := fun ks => by
          induction ks with
          | nil =>
            intro xs us _ h1 h2
            simp only [NestedKey.datas] at h1
            cases h1
            cases h2
            exact .nil
          | cons k ks ih2 =>
            intro xs us hd h1 h2
            simp only [NestedKey.datas] at h1
            simp only [NestedKey.depthAll] at hd
            cases h1 with
            | cons q1 q2 =>
              cases h2 with
              | cons r1 r2 => exact .cons (ih k (by omega) q1 r1) (ih2 _ _ (by omega) q2 r2)
        have := go ks xs its (by omega) (by rw [hds]; exact hs) rv
        simpa using this
theorem DTO_ok {P : Program} {w : World} {H : Hp} {h : Heap} {hf : NestedKey → Int} {p : Addr} {xs : List (NestedKey × Addr × Value)} (hd : (p == sysModules) = false) (ho : ∃ o es ep, h.get? p = some o ∧ o.ExactDict ∧ o.data = .dict es ep ∧ es.toList = xs.map fun x => (⟨hf x.1, .ref x.2.1, x.2.2⟩ : DictEntry)) : ObjOk P w H h p (DTO hf p xs) := by
  obtain ⟨o, es, ep, h1, h2, h3, h4⟩ := ho
  exact ⟨⟨hd, o, es, ep, h1, h2, h3, h4⟩, ⟨o, h1⟩, fun a b ⟨hd, o, es, ep, h1, r⟩ k => ⟨hd, o, es, ep, k o h1, r⟩⟩
section
variable {X : Cy} {pins : List (Addr × Obj)} {σ : St} {H : Hp} {s : Shared} {p : Addr} {xs : List (NestedKey × Addr × Value)}
def KeysAt (K : PySem.W.Frag) (H : Hp) (xs : List (NestedKey × Addr × Value)) : Prop := ∀ x ∈ xs, Dq K H (.ref x.2.1) x.1.data ∧ x.1.depth ≤ 8
theorem TKV.keys {K : PySem.W.Frag} {w : Wd} {kvs : List (NestedKey × Sl)} (e : Same w.S H) : ∀ {xs : List (NestedKey × Addr × Value)} {kvs : List (NestedKey × Sl)}, TKV K w xs kvs → KeysAt K H xs
  | _, _, .nil, x, h => by cases h
  | _, _, .cons q r, x, h => by
    rcases List.mem_cons.mp h with rfl | h
    · exact ⟨Dp_mono e q.2.1, q.2.2.1⟩
    · exact TKV.keys (kvs := kvs) e r x h
theorem dt_dict (I : Inv X pins σ H s) (hH : H p = some (DTO (hshW X.w) p xs)) (hk : KeysAt X.K H xs) (hn : (xs.map (·.1)).Nodup) : (p == sysModules) = false ∧ s.heap.DictOfH (nestedKind X.prog X.w) p xs := by
  obtain ⟨⟨hd, o, es, ep, h1, h2, h3, h4⟩, _⟩ := (show ObjOk X.prog X.w H s.heap p (DTO (hshW X.w) p xs) from I.hok p _ hH)
  exact ⟨hd, o, es, ep, h1, h2, h3, h4, fun x hx => ⟨nested_is I 8 x.1 (hk x hx).2 (hk x hx).1 rfl, (hk x hx).2⟩, hn⟩
theorem dt_type {hf : NestedKey → Int} (I : Inv X pins σ H s) (hH : H p = some (DTO hf p xs)) : s.TypeIs (.ref p) "dict" ∧ (∀ b, Value.ref p = .ref b → ∃ ob, s.heap.get? b = some ob ∧ ob.dict = none) ∧ (p == sysModules) = false := by
  obtain ⟨⟨hd, o, es, ep, h1, h2, h3, h4⟩, _⟩ := (show ObjOk X.prog X.w H s.heap p (DTO hf p xs) from I.hok p _ hH)
  exact ⟨⟨o, h1, h2.1⟩, fun b q => by cases q; exact ⟨o, h1, h2.2.1⟩, hd⟩
end
section
variable {X : Cy} {z : Z} {Q : Sl → Z → Prop} {pos pos' apos cpos : Pos} {o i e f value : Expr} {td ty tx tv : TE}
/-! {} -/
def tDNewH (hf : NestedKey → Int) : TE := fun _ H Q => ∀ p, H p = none → Q (.ref p) (upd H p (DTO hf p []))
theorem pe_dnewH (hf : NestedKey → Int) : PE X (.Dict [] [] pos) (tDNewH hf) := ⟨fun pins s σ H Q I h =>
  wpAny_Dict_empty ⟨.ref s.heap.objs.size, _, I.laid (a := s.heap.objs.size) (o := DTO hf s.heap.objs.size []) (t' := s.toks) (fun _ _ q => Heap.get?_push_of_some _ q) (Nat.le_refl _) (DTO_ok (beq_eq_false_iff_ne.mpr (Ne.symm (Nat.ne_of_lt I.big))) ⟨_, #[], 0, Heap.get?_push_size _ rfl, ⟨rfl, rfl, rfl⟩, rfl, rfl⟩), rfl, h _ (I.hok.fresh (Nat.le_refl _))⟩⟩
theorem we_dnewT (h : Q (.ob z.ob.length) ⟨z.sl, z.ob ++ [tkO (hshW X.w) []]⟩) : WE X (.Dict [] [] pos) z Q := fun c w σ kk bb hk =>
  tE_of (pe_dnewH (hshW X.w)) fun p hp => by
    refine hk (.ref p) (.ob z.ob.length) ⟨w.rho ++ [p], w.S, upd w.H p (DTO (hshW X.w) p [])⟩ _ (bb.newG hp fun w' l hS hH => tk_ob (kvs := []) hS hH List.nodup_nil .nil) le_obj ⟨p, ?_, rfl⟩ h
    show (w.rho ++ [p])[z.ob.length]? = some p
    rw [← bb.len, List.getElem?_append_right (Nat.le_refl _), Nat.sub_self]
    rfl
/-! d.get(k, x) -/
def tTGet2 (X : Cy) (td ty tx : TE) : TE := fun σ H Q => td σ H fun x H1 => ∃ a xs0 hf, x = .ref a ∧ H1 a = some (DTO hf a xs0) ∧ ty σ H1 fun y H2 => tx σ H2 fun z H3 => ∃ xs k b, H3 a = some (DTO (hshW X.w) a xs) ∧ KeysAt X.K H3 xs ∧ (xs.map (·.1)).Nodup ∧ y = .ref b ∧ Dq X.K H3 (.ref b) k.data ∧ k.depth ≤ 8 ∧
  ((atKey xs k = none ∧ Q z H3) ∨ ∃ p v, atKey xs k = some p ∧ RelV v p.2 ∧ Q v H3)
theorem pe_tget2 (hu : X.A.units + 10 < cLine) (ho : PE X o td) (he : PE X e ty) (hf : PE X f tx) (m : M2 X o "get" apos e f cpos) : PE X (.Call (.Attribute o "get" apos) [e, f] [] cpos) (tTGet2 X td ty tx) := by
  refine ⟨fun pins s σ H Q I h => ?_⟩
  refine wpAny_Call_method m.base m.few m.line PySem.F.plainAttrs_dict PySem.F.slot_dict_get PySem.F.type_dict_get (thn (ho.run pins s σ H _ I h) fun u s1 ⟨x, H1, I1, rx, a, xs0, hf0, ex, d, q1⟩ => ?_)
  subst ex
  obtain rfl : u = Value.ref a := rx
  obtain ⟨t1, t2, hd⟩ := dt_type I1 d
  refine ⟨t1, t2, ?_⟩
  rw [m.trees]
  refine Calls.callWith_builtin rfl (Calls.evalArgs_plain (Calls.spliced_cons (thn (he.run pins s1 σ H1 _ I1 q1) fun iv s2 ⟨y, H2, I2, ry, q2⟩ =>
    Calls.spliced_cons (thn (hf.run pins s2 σ H2 _ I2 q2) fun fv s3 ⟨z, H3, I3, rz, xs, k, b, hH, hk, hn, ey, hkd, hdp, q3⟩ => Calls.spliced_nil ?_))))
  subst ey
  cases (show iv = Value.ref b from ry)
  obtain ⟨_, dd⟩ := dt_dict I3 hH hk hn
  refine call_meetsIn PySem.F.slot_dict_get dd.typeIs PySem.F.entry_dict_get (PySem.F.args_dict_get_3 _ _ _) (meetsH_dict_get_default (nestedKind X.prog X.w) a b hd fv) ⟨by show X.A.in1.units + 8 < cLine; show X.A.units + 1 + 8 < cLine; omega, k, xs, ⟨nested_is I3 8 k hdp hkd rfl, hdp⟩, dd, ?_⟩
  rcases q3 with ⟨h1, q⟩ | ⟨p, v, h1, hr, q⟩
  · rw [h1]
    exact ⟨z, H3, I3.tok _, rz, q⟩
  · rw [h1]
    exact ⟨v, H3, I3.tok _, hr, q⟩
theorem we_tget2 (hu : X.A.units + 10 < cLine) (m : M2 X o "get" apos e f cpos) (h : WE X o z fun x z1 => ∃ n kvs, x = .ob n ∧ z1.ob[n]? = some (tkO (hshW X.w) kvs) ∧ WE X e z1 fun y z2 => WE X f z2 fun u z3 => ∃ kvs3 k ks, z3.ob[n]? = some (tkO (hshW X.w) kvs3) ∧ k = NestedKey.tup ks ∧ k.depth ≤ 8 ∧ y = .sh k.data ∧ Q ((valG kvs3 k).getD u) z3) :
    WE X (.Call (.Attribute o "get" apos) [e, f] [] cpos) z Q := fun c w σ kk bb hk =>
  tE_of (pe_tget2 hu peB peB peB m) (h c w σ _ bb fun v x w1 z1 b1 l1 r1 ⟨n, kvs, ex, hn, h1⟩ => by
    subst ex
    obtain ⟨a, ha, rfl⟩ := r1
    obtain ⟨_, xs0, hl, _⟩ := tk_at (b1.ob n _ a hn ha)
    refine ⟨a, xs0, _, rfl, hl, h1 c w1 σ _ b1 fun v2 y w2 z2 b2 l2 r2 h2 => h2 c w2 σ _ b2 fun v3 u w3 z3 b3 l3 r3 ⟨kvs3, k, ks, hn3, ek, hdp, ey, hq⟩ => ?_⟩
    subst ey
    obtain ⟨_, xs3, hl3, hnd, hp⟩ := tk_at (b3.ob n _ a hn3 (l3.rho n a (l2.rho n a ha)))
    have r2' : Dq X.K w2.S v2 k.data := r2
    obtain ⟨b, rfl⟩ : ∃ b, v2 = .ref b := by
      subst ek
      simp only [NestedKey.data] at r2'
      generalize NestedKey.datas ks = ds at r2'
      cases r2' with
      | tup h1 h2 => exact ⟨_, rfl⟩
    refine ⟨xs3, k, b, hl3, TKV.keys (kvs := kvs3) b3.same hp, hnd, rfl, Dp_mono b3.same (Dp_mono l3.st r2'), hdp, ?_⟩
    have l13 := (l1.trans l2).trans l3
    rcases hp.val k with ⟨e1, e2⟩ | ⟨p, y, v4, e1, e2, hr, hd⟩
    · rw [e2] at hq
      exact .inl ⟨e1, hk _ _ w3 z3 b3 l13 r3 hq⟩
    · rw [e2] at hq
      exact .inr ⟨p, v4, e1, hr, hk _ _ w3 z3 b3 l13 hd hq⟩)
/-! d[k] -/
/-- the value at a key -/
def TAt (X : Cy) (H : Hp) (a : Addr) (y : V) (v : V) : Prop := ∃ xs k b p, H a = some (DTO (hshW X.w) a xs) ∧ KeysAt X.K H xs ∧ (xs.map (·.1)).Nodup ∧ y = .ref b ∧ Dq X.K H (.ref b) k.data ∧ k.depth ≤ 8 ∧ atKey xs k = some p ∧ RelV v p.2
theorem ix_dictT (hu : X.A.units + 10 < cLine) : IxR X (fun x y H Q => ∃ a v, x = .ref a ∧ TAt X H a y v ∧ Q v H) := by
  intro value slice pins s σ H x y v u Q I rx ry h hs
  obtain ⟨a, v', rfl, ⟨xs, k, b, p, hH, hk, hn, rfl, hkd, hdp, hat, hr⟩, q⟩ := h
  cases rx
  cases (show u = Value.ref b from ry)
  obtain ⟨_, dd⟩ := dt_dict I hH hk hn
  have hT := dd.typeIs
  unfold subscriptTail
  refine wpAny_bind ?_
  rw [getitemInPython_of_ne hT.not_modules]
  refine wpAny_bind (wpAny_specialOf hT PySem.F.slot_dict_getitem.lookup ?_)
  have h2 : wpAny (model X.prog X.w) X.A (getItem (.ref a) (.ref b)) (EP X pins σ Q) X.xe s := by
    refine wpAny_getItem_heap (knd := nestedKind X.prog X.w) (by show X.A.units + 1 + 8 < cLine; omega) ⟨nested_is I 8 k hdp hkd rfl, hdp⟩ dd hat ?_
    exact ⟨v', H, I.tok _, hr, q⟩
  have fin : wpAny (model X.prog X.w) X.A (subscripted slice false (.ref a) (.ref b)) (fun r s₃ => wpAny (model X.prog X.w) X.A (letTemporaryGo value (.ref a) r >>= fun _ => pure r) (EP X pins σ Q) X.xe s₃) X.xe s := by
    rw [hs]
    exact wpAny_operating (wpAny_mono h2 (fun r s₃ h₃ => wpAny_bind (wpAny_letTemporaryGo (wpAny_pure h₃))) fun _ _ x => x)
  first
    | exact wpAny_pure (wpAny_bind fin)
    | exact wpAny_bind (wpAny_pure (wpAny_bind fin))
    | exact wpAny_bind fin
theorem key_ref {K : PySem.W.Frag} {H : Hp} {v : V} {k : NestedKey} {ks : List NestedKey} (ek : k = .tup ks) (h : Dq K H v k.data) : ∃ b, v = .ref b := by
  subst ek
  simp only [NestedKey.data] at h
  generalize NestedKey.datas ks = ds at h
  cases h with
  | tup h1 h2 => exact ⟨_, rfl⟩
theorem id_TO (hu : X.A.units + 10 < cLine) {n : Nat} {kvs : List (NestedKey × Sl)} {k : NestedKey} {ks : List NestedKey} {d : PyData} {u : Sl} (ek : k = .tup ks) (hdp : k.depth ≤ 8) (hd : d = k.data) (hn : z.ob[n]? = some (tkO (hshW X.w) kvs)) (hv : valG kvs k = some u) (h : Q u z) : ID X (.ob n) (.sh d) z Q := fun c w σ v y kk b r1 r2 hk => by
  subst hd
  obtain ⟨a, ha, rfl⟩ := r1
  obtain ⟨_, xs, hl, hnd, hp⟩ := tk_at (b.ob n _ a hn ha)
  have r2' : Dq X.K w.S y k.data := r2
  obtain ⟨bb, rfl⟩ := key_ref ek r2'
  rcases hp.val k with ⟨e1, e2⟩ | ⟨p, u', v4, e1, e2, hr, hd⟩
  · rw [e2] at hv
    cases hv
  · rw [e2] at hv
    cases hv
    exact ixB_of (ix_dictT hu) ⟨a, v4, rfl, ⟨xs, k, bb, p, hl, TKV.keys (kvs := kvs) b.same hp, hnd, rfl, Dp_mono b.same r2', hdp, e1, hr⟩, hk _ _ w z b (.refl w) hd h⟩
/-! d[k] = v -/
def sTPut (X : Cy) (td ty tv : TE) : TS := fun D σ H => tv σ H fun v H1 => td σ H1 fun x H2 => ty σ H2 fun y H3 => ∃ a xs k b, x = .ref a ∧ H3 a = some (DTO (hshW X.w) a xs) ∧ KeysAt X.K H3 xs ∧ (xs.map (·.1)).Nodup ∧ y = .ref b ∧ Dq X.K H3 (.ref b) k.data ∧ k.depth ≤ 8 ∧ xs.length < sizeLine ∧
  ∀ r : Value, RelV v r → (((storedH xs k b r).map (·.1)).Nodup → D.nx σ (upd H3 a (DTO (hshW X.w) a (storedH xs k b r))))
theorem ps_tput (hu : X.A.units + 10 < cLine) (ho : PE X o td) (hi : PE X i ty) (hv : PE X value tv) (hs : swapsWith value (some (.Subscript o i pos')) pos.line X.env = pure false) :
    PS X (.Assign [.Subscript o i pos'] value pos) (sTPut X td ty tv) := by
  refine ⟨fun pins s σ H D I h => ?_⟩
  refine wpAny_Assign_Subscript (thn (hv.run pins s σ H _ I h) fun r s1 ⟨v, H1, I1, rv, q1⟩ => thn (ho.run pins s1 σ H1 _ I1 q1) fun u s2 ⟨x, H2, I2, rx, q2⟩ => thn (hi.run pins s2 σ H2 _ I2 q2) fun iv s3 ⟨y, H3, I3, ry, a, xs, k, b, ex, hH, hk, hn, ey, hkd, hdp, hz, q3⟩ => ?_) hs
  subst ex ey
  obtain rfl : u = Value.ref a := rx
  cases (show iv = Value.ref b from ry)
  obtain ⟨hd, dd⟩ := dt_dict I3 hH hk hn
  refine wpAny_setItem_heap (knd := nestedKind X.prog X.w) (hsz := by omega) (by show X.A.units + 1 + 8 < cLine; omega) ⟨nested_is I3 8 k hdp hkd rfl, hdp⟩ dd fun h' dd' sb => ?_
  obtain ⟨o2, es, ep, h1, h2, h3, h4, _, h5⟩ := dd'
  exact ⟨σ, _, d_write I3 (by rw [hH]; exact True.intro) sb ⟨o2, h1⟩ (DTO_ok hd ⟨o2, es, ep, h1, h2, h3, h4⟩), q3 r rv h5⟩
theorem w1_tput {P : Out → Prop} (hu : X.A.units + 10 < cLine) (h : WE X value z fun x z1 => WE X o z1 fun y z2 => WE X i z2 fun u z3 => ∃ n kvs k ks, y = .ob n ∧ z3.ob[n]? = some (tkO (hshW X.w) kvs) ∧ k = NestedKey.tup ks ∧ k.depth ≤ 8 ∧ u = .sh k.data ∧ kvs.length < 100000 ∧ P (.nx ⟨z3.sl, z3.ob.set n (tkO (hshW X.w) (putG kvs k x))⟩))
    (hs : swapsWith value (some (.Subscript o i pos')) pos.line X.env = pure false := by rfl) : W1 X (.Assign [.Subscript o i pos'] value pos) z P := fun c w σ D bb hk =>
  tS_of (ps_tput hu peB peB peB hs) (h c w σ _ bb fun v x w1 z1 b1 l1 r1 h1 => h1 c w1 σ _ b1 fun v2 y w2 z2 b2 l2 r2 h2 => h2 c w2 σ _ b2 fun v3 u w3 z3 b3 l3 r3 ⟨n, kvs, k, ks, ey, hn, ek, hdp, eu, hz, hq⟩ => by
    subst ey eu
    obtain ⟨a, ha, rfl⟩ := r2
    have r3' : Dq X.K w3.S v3 k.data := r3
    obtain ⟨b, rfl⟩ := key_ref ek r3'
    have ha3 := l3.rho n a ha
    obtain ⟨hS, xs, hl, hnd, hp⟩ := tk_at (b3.ob n _ a hn ha3)
    refine ⟨a, xs, k, b, rfl, hl, TKV.keys (kvs := kvs) b3.same hp, hnd, rfl, Dp_mono b3.same r3', hdp, by rw [hp.len]; exact Nat.lt_of_lt_of_le hz (by decide), fun r rr hnd2 => ?_⟩
    have r1' := (r1.mono l2).mono l3
    have b4 := b3.setG (oo := tkO (hshW X.w) (putG kvs k x)) hn ha3 hS (hu := DTO (hshW X.w) a (storedH xs k b r)) fun w' l' hS' hH' => tk_ob hS' hH' hnd2 (Paired.mapP (hp.put r3' hdp rr r1') fun _ _ q => ⟨q.1, q.2.mono l'⟩)
    exact hk.nx ⟨w3.rho, w3.S, upd w3.H a (DTO (hshW X.w) a (storedH xs k b r))⟩ σ _ b4 (((l1.trans l2).trans l3).trans le_set) hq)
end
end Dl

namespace Dl
open PySem PySem.Spec L2
open PyProof.Rows hiding St
/-! ### sorted of what is collected -/
section
variable {X : Cy} {pins : List (Addr × Obj)} {σ : St} {H : Hp} {s : Shared}
theorem sort_call {n : Nat} {S : Hp} {acc : List Value} {ds : List PyData} {Q : VK} (hu : X.A.units + n + 2 < cLine) (I : Inv X pins σ H s) (tr : Paired (Trip X.K H S s.heap n) acc ds) (hz : acc.length ≤ sizeLine) (hsb : Srb ds)
    (q : ∀ (p : Addr) (ys : List V), H p = none → DqAll X.K S ys (sortD ds) → Q (.ref p) (upd H p (.lst ys))) :
    wpAny (model X.prog X.w) X.A.in1 (call (.builtin "list.sort") [.ref s.heap.objs.size]) (fun _ s' => EP X pins σ Q (.ref s.heap.objs.size) s') X.xe { s with heap := s.heap.push (seqObj "list" acc.toArray 0) } := by
  have od : Paired (Od s.heap n) acc ds := paired_mono tr fun _ _ t => t.o
  have hoL : (s.heap.push (seqObj "list" acc.toArray 0)).get? s.heap.objs.size = some (seqObj "list" acc.toArray 0) := Heap.get?_push_size _ rfl
  have kk : ∀ b o, s.heap.get? b = some o → (s.heap.push (seqObj "list" acc.toArray 0)).get? b = some o := fun b o e => Heap.get?_push_of_some _ e
  have lw : (SrtO.Swo fun v u => ltC (dvO s.heap n v) (dvO s.heap n u)) := ⟨fun x y h => ltC_swo.asym _ _ h, fun x y z h1 h2 => ltC_swo.tr _ _ _ h1 h2⟩
  refine wpAny_call_entry PyProof.Rows.slot_list_sort ⟨_, hoL, rfl⟩ PyProof.Rows.entry_list_sort (SrtO.list_sort_ord (s := { s with heap := s.heap.push (seqObj "list" acc.toArray 0) }) lw hoL hz (fun h2 => ?_) fun out h1 h2 => ⟨_, rfl, ?_⟩) (PyProof.Rows.args_list_sort _)
  · have od1 : Paired (Od (s.heap.push (seqObj "list" acc.toArray 0)) n) acc ds := paired_mono od fun _ _ t => t.keep fun b o e _ => kk b o e
    have := od_sortable (s := { s with heap := s.heap.push (seqObj "list" acc.toArray 0) }) (a := s.heap.objs.size) (A := X.A.in1.in1) (prog := X.prog) (w := X.w) (n := n) (by show X.A.units + 1 + 1 + n < cLine; omega) od1 hsb h2 fun o e => by
      have e' : some o = some (seqObj "list" acc.toArray 0) := e.symm.trans hoL
      cases e'
      intro c
      exact absurd (Value.type.inj c) (by decide)
    have ee : ∀ v ∈ acc, dvO (s.heap.push (seqObj "list" acc.toArray 0)) n v = dvO s.heap n v := fun v hv => by
      obtain ⟨d, _, t⟩ := paired_mem od v hv
      rw [dvO_eq t, dvO_eq (t.keep fun b o e _ => kk b o e)]
    intro h' keep
    obtain ⟨κ, k1, k2⟩ := this h' keep
    refine ⟨κ, k1, fun p q hp hq => ?_⟩
    have k3 := k2 p q hp hq
    have e4 : SrtO.lt2 (fun v u => ltC (dvO (s.heap.push (seqObj "list" acc.toArray 0)) n v) (dvO (s.heap.push (seqObj "list" acc.toArray 0)) n u)) p q = SrtO.lt2 (fun v u => ltC (dvO s.heap n v) (dvO s.heap n u)) p q := by
      show ltC (dvO (s.heap.push (seqObj "list" acc.toArray 0)) n p.1) (dvO (s.heap.push (seqObj "list" acc.toArray 0)) n q.1) = ltC (dvO s.heap n p.1) (dvO s.heap n q.1)
      rw [ee _ hp, ee _ hq]
    rw [← e4]
    exact k3
  · have so := sort_out tr h1 h2
    obtain ⟨hn1, hv1⟩ := trips_dq so
    obtain ⟨nn, hn⟩ := PyProof.Rows.sortedHeap_at (vs := acc) (out := out.toArray) hoL
    refine ⟨.ref s.heap.objs.size, upd H s.heap.objs.size (.lst (out.map bkO)), I.laid (t' := s.toks) (fun b o e => ?_) (Nat.le_refl _) ⟨?_, out, nn, hv1, hn⟩, rfl, q _ _ (I.hok.fresh (Nat.le_refl _)) hn1⟩
    · have hb := Heap.lt_size e
      show (sortedHeap (s.heap.push (seqObj "list" acc.toArray 0)) s.heap.objs.size acc out.toArray).get? b = some o
      rw [PyProof.Rows.sortedHeap_old (Nat.ne_of_lt hb) (by rw [size_push']; exact Nat.lt_succ_of_lt hb)]
      exact Heap.get?_push_of_some _ e
    · rw [List.length_map, h2.perm.length_eq]
      exact hz
/-- values by their addresses -/
theorem trips_ref {S : Hp} (I : Inv X pins σ H s) (e : Same S H) {n : Nat} : ∀ {as : List Addr} {ds : List PyData}, Paired (fun a d => Dq X.K S (.ref a) d) as ds → (∀ d ∈ ds, Ody n d) → Paired (Trip X.K H S s.heap n) (as.map Value.ref) ds
  | _, _, .nil, _ => .nil
  | a :: as, d :: ds, .cons q r, hy => .cons ⟨q, rfl, dq_od I n (hy _ List.mem_cons_self) (Dp_mono e q) rfl⟩ (trips_ref I e r fun d hd => hy d (List.mem_cons_of_mem _ hd))
/-- sorted(d): its keys, tuples -/
def rSortDk (X : Cy) (n : Nat) (S : Hp) : List V → Hp → VK → Prop := fun vs H Q => ∃ (a : Addr) (hf : NestedKey → Int) (xs : List (NestedKey × Addr × Value)), vs = [.ref a] ∧ H a = some (DTO hf a xs) ∧ Paired (fun a d => Dq X.K S (.ref a) d) (xs.map (·.2.1)) (xs.map (·.1.data)) ∧ Same S H ∧ (∀ d ∈ xs.map (·.1.data), Ody n d) ∧ Srb (xs.map (·.1.data)) ∧ xs.length ≤ 100000 ∧
  ∀ (p : Addr) (ys : List V), H p = none → DqAll X.K S ys (sortD (xs.map (·.1.data))) → Q (.ref p) (upd H p (.lst ys))
theorem cr_sortDk {n : Nat} {S : Hp} (hc : X.calm = true) (hu : X.A.units + n + 2 < cLine) : CallR X (.builtin "sorted") (rSortDk X n S) := by
  intro pins s σ H vs us Q I rv h
  obtain ⟨a, hf, xs, rfl, hH, hk, hsame, hy, hsb, hz, q⟩ := h
  obtain ⟨u, rfl, ru⟩ := vals1 rv
  obtain rfl : u = Value.ref a := ru
  obtain ⟨⟨lo, o, es, ep, ho, hx, hd, he⟩, _⟩ := (show ObjOk X.prog X.w H s.heap a (DTO hf a xs) from I.hok a _ hH)
  have les : es.size = xs.length := by
    rw [← Array.length_toList, he, List.length_map]
  have hz2 : es.size ≤ sizeLine := by rw [les]; exact Nat.le_trans hz (by decide)
  refine Calls.call_function_entry PyProof.Rows.kind_sorted PyProof.Rows.plain_sorted PyProof.Rows.entry_sorted (PyProof.Rows.args_sorted1 _) ?_
  unfold Builtin.«sorted»
  refine wpAny_bind (m := checkCount "sorted" 1 1 _) (wpAny_pure ?_)
  refine wpAny_bind (PySem.W.kdu_collect (A := X.A.in1) (kdl_raw lo hx hd) (I.ok.hd hc) ho hz2 fun h' tk acc hkp hacc => ?_)
  have ea : acc.toList = (xs.map (·.2.1)).map Value.ref := by
    apply List.ext_getElem?
    intro j
    rw [List.getElem?_map, List.getElem?_map]
    cases hj : acc.toList[j]? with
    | none =>
      have h1 := List.getElem?_eq_none_iff.mp hj
      rw [Array.length_toList, hacc.1, les] at h1
      rw [List.getElem?_eq_none (by omega)]
      rfl
    | some v =>
      obtain ⟨en, hen, hv⟩ := hacc.2 j v (by rw [← Array.getElem?_toList]; exact hj)
      rw [← Array.getElem?_toList, he, List.getElem?_map] at hen
      obtain ⟨x, hx2, rfl⟩ := Option.map_eq_some_iff.mp hen
      rw [hx2, hv]
      rfl
  have I1 : Inv X pins σ H { s with heap := h', toks := tk } := I.kept hkp
  have tr := trips_ref I1 hsame hk hy
  rw [← ea] at tr
  have lacc : acc.toList.length ≤ sizeLine := by rw [Array.length_toList, hacc.1]; exact hz2
  refine wpAny_bind (wpAny_newList ?_ lacc)
  have hg := sort_call (s := { s with heap := h', toks := tk }) hu I1 tr lacc hsb q
  refine wpAny_bind (wpAny_holding (wpAny_mono hg (fun _ s' x => ?_) fun _ _ e => e))
  exact wpAny_pure ⟨_, rfl, x⟩
end
section
variable {X : Cy} {z : Z} {Q : Sl → Z → Prop} {pos apos cpos : Pos} {o : Expr}
theorem tkv_keys {K : PySem.W.Frag} {w : Wd} : ∀ {xs : List (NestedKey × Addr × Value)} {kvs : List (NestedKey × Sl)}, TKV K w xs kvs → Paired (fun a d => Dq K w.S (.ref a) d) (xs.map (·.2.1)) (xs.map (·.1.data)) ∧ xs.map (·.1.data) = kvs.map (·.1.data)
  | _, _, .nil => ⟨.nil, rfl⟩
  | _, _, .cons q r => by
    obtain ⟨h1, h2⟩ := tkv_keys r
    exact ⟨.cons q.2.1 h1, by rw [List.map_cons, List.map_cons, h2, q.1]⟩
theorem cd_sortDk (n : Nat) {i : Nat} {hf : NestedKey → Int} {kvs : List (NestedKey × Sl)} (hc : X.calm = true) (hu : X.A.units + n + 2 < cLine) (hn : z.ob[i]? = some (tkO hf kvs)) (hy : ∀ d ∈ kvs.map (·.1.data), Ody n d) (hs : Srb (kvs.map (·.1.data))) (hz : kvs.length ≤ 100000) (h : Q (.sh (.list (sortD (kvs.map (·.1.data))))) z) : CD X (.builtin "sorted") [.ob i] z Q := fun c w σ vs k b rr hkk => by
  obtain ⟨v, rfl, r⟩ := p1 rr
  obtain ⟨a, ha, rfl⟩ := r
  obtain ⟨_, xs, hl, hnd, hp⟩ := tk_at (b.ob i _ a hn ha)
  obtain ⟨h1, h2⟩ := tkv_keys hp
  exact cB_of (cr_sortDk (S := w.S) hc hu) ⟨a, hf, xs, rfl, hl, h1, b.same, by rw [h2]; exact hy, by rw [h2]; exact hs, by rw [hp.len]; exact hz, fun p ys hp hq => new_lstF b (by rw [← h2]; exact hq) hkk h p hp⟩
end
/-! ### sorted(d.items()) -/
def updT (H : Hp) : List (Addr × Obj × List V) → Hp
  | [] => H
  | x :: L => updT (upd H x.1 (.frz x.2.1 (.tup x.2.2))) L
theorem updT_old : ∀ {L : List (Addr × Obj × List V)} {H : Hp} {b : Addr}, (∀ x ∈ L, x.1 ≠ b) → updT H L b = H b
  | [], _, _, _ => rfl
  | x :: L, H, b, h => by
    show updT _ L b = _
    rw [updT_old fun y hy => h y (List.mem_cons_of_mem _ hy), upd_ne (fun e => h x List.mem_cons_self e.symm)]
theorem updT_new : ∀ {L : List (Addr × Obj × List V)} {H : Hp}, (L.map (·.1)).Nodup → ∀ x ∈ L, updT H L x.1 = some (.frz x.2.1 (.tup x.2.2))
  | [], _, _, x, h => by cases h
  | y :: L, H, hn, x, h => by
    rw [List.map_cons, List.nodup_cons] at hn
    rcases List.mem_cons.mp h with rfl | h
    · show updT _ L x.1 = _
      rw [updT_old fun y hy e => hn.1 (List.mem_map.mpr ⟨y, hy, e⟩), upd_same]
    · exact updT_new hn.2 x h
theorem updT_same : ∀ {L : List (Addr × Obj × List V)} {S H : Hp}, (L.map (·.1)).Nodup → (∀ x ∈ L, H x.1 = none) → Same S H → Same (updT S L) (updT H L)
  | [], _, _, _, _, h => h
  | x :: L, S, H, hn, hx, h => by
    rw [List.map_cons, List.nodup_cons] at hn
    show Same (updT (upd S x.1 (.frz x.2.1 (.tup x.2.2))) L) (updT (upd H x.1 (.frz x.2.1 (.tup x.2.2))) L)
    refine updT_same hn.2 (fun y hy => ?_) fun b o e => ?_
    · rw [upd_ne (fun e => hn.1 (List.mem_map.mpr ⟨y, hy, e⟩))]
      exact hx y (List.mem_cons_of_mem _ hy)
    · by_cases eb : b = x.1
      · subst eb
        rw [upd_same] at e ⊢
        exact e
      · rw [upd_ne eb] at e ⊢
        exact h b o e
theorem B.newTs {K : PySem.W.Frag} {c : Ct} {σ : St} {z : Z} : ∀ {L : List (Addr × Obj × List V)} {w : Wd}, B K c w σ z → (L.map (·.1)).Nodup → (∀ x ∈ L, w.H x.1 = none) → B K c ⟨w.rho, updT w.S L, updT w.H L⟩ σ z ∧ w.Le ⟨w.rho, updT w.S L, updT w.H L⟩
  | [], w, b, _, _ => ⟨b, .refl w⟩
  | x :: L, w, b, hn, hx => by
    rw [List.map_cons, List.nodup_cons] at hn
    have h1 := hx x List.mem_cons_self
    obtain ⟨b2, l2⟩ := B.newTs (L := L) (b.newS (o := .frz x.2.1 (.tup x.2.2)) h1) hn.2 fun y hy => by
      show upd w.H x.1 _ y.1 = none
      rw [upd_ne (fun e => hn.1 (List.mem_map.mpr ⟨y, hy, e⟩))]
      exact hx y (List.mem_cons_of_mem _ hy)
    exact ⟨b2, (le_new (b.freshS h1)).trans l2⟩
section
variable {X : Cy} {pins : List (Addr × Obj)} {σ : St} {H : Hp} {s : Shared}
theorem take_tups {s0 : Shared} {h' : Heap} {tk : Nat} (I0 : Inv X pins σ H s0) : ∀ (L : List (Addr × Obj × List V)) (H1 : Hp), Inv X pins σ H1 { s0 with heap := h', toks := tk } → (L.map (·.1)).Nodup →
    (∀ x ∈ L, s0.heap.objs.size ≤ x.1 ∧ H1 x.1 = none ∧ ∀ H2, ObjOk X.prog X.w H2 h' x.1 (.frz x.2.1 (.tup x.2.2))) → Inv X pins σ (updT H1 L) { s0 with heap := h', toks := tk }
  | [], H1, I1, _, _ => I1
  | x :: L, H1, I1, hn, h => by
    obtain ⟨hb, hnone, ok⟩ := h x List.mem_cons_self
    rw [List.map_cons, List.nodup_cons] at hn
    have I2 : Inv X pins σ (upd H1 x.1 (.frz x.2.1 (.tup x.2.2))) { s0 with heap := h', toks := tk } := I1.take (h' := h') (t' := tk) (fun b ob _ e => e) (I0.fpOk hb hnone) (ok _)
    exact take_tups I0 L _ I2 hn.2 fun y hy => by
      obtain ⟨c1, c2, c3⟩ := h y (List.mem_cons_of_mem _ hy)
      exact ⟨c1, by rw [upd_ne (fun e => hn.1 (List.mem_map.mpr ⟨y, hy, e⟩))]; exact c2, c3⟩
def itemD (q : (NestedKey × Addr × Value) × PyData) : PyData := .tuple [q.1.1.data, q.2]
/-- the pairs that were made -/
theorem made_tups {K : PySem.W.Frag} {S : Hp} {h' : Heap} : ∀ {as : List Addr} {xs : List (NestedKey × Addr × Value)} {es : List PyData}, Paired (fun b (x : NestedKey × Addr × Value) => h'.get? b = some { cls := .type "tuple", data := .seq #[Value.ref x.2.1, x.2.2] }) as xs → Paired (fun x d => Dq K S (.ref x.2.1) x.1.data ∧ ∃ v, RelV v x.2.2 ∧ Dq K S v d) xs es →
    ∃ L : List (Addr × Obj × List V), L.map (·.1) = as ∧ Paired (fun l t => (∀ (P : Program) (w : World) (H2 : Hp), ObjOk P w H2 h' l.1 (.frz l.2.1 (.tup l.2.2))) ∧ l.2.1.dict = none ∧ ∃ ds, t = .tuple ds ∧ DqAll K S l.2.2 ds) L ((xs.zip es).map itemD)
  | _, _, _, .nil, .nil => ⟨[], rfl, .nil⟩
  | a :: as, x :: xs, d :: es, .cons q r, .cons ⟨k1, v, rv, k2⟩ r2 => by
    obtain ⟨L, h1, h2⟩ := made_tups r r2
    refine ⟨(a, { cls := .type "tuple", data := .seq #[Value.ref x.2.1, x.2.2] }, [.ref x.2.1, v]) :: L, by rw [List.map_cons, h1], .cons ⟨fun P w H2 => ⟨q, by show 2 ≤ sizeLine; decide, [Value.ref x.2.1, x.2.2], .cons rfl (.cons rv .nil), _, q, rfl, 0, rfl⟩, rfl, [x.1.data, d], rfl, .cons k1 (.cons k2 .nil)⟩ h2⟩
/-- what is made stays -/
theorem made_dq {K : PySem.W.Frag} {S : Hp} {h' : Heap} {L0 : List (Addr × Obj × List V)} (hn : (L0.map (·.1)).Nodup) (hs : Same S (updT S L0)) : ∀ {L : List (Addr × Obj × List V)} {T : List PyData}, (∀ x ∈ L, x ∈ L0) → Paired (fun (l : Addr × Obj × List V) t => (∀ (P : Program) (w : World) (H2 : Hp), ObjOk P w H2 h' l.1 (.frz l.2.1 (.tup l.2.2))) ∧ l.2.1.dict = none ∧ ∃ ds, t = PyData.tuple ds ∧ DqAll K S l.2.2 ds) L T → Paired (fun a d => Dq K (updT S L0) (.ref a) d) (L.map (·.1)) T
  | _, _, _, .nil => .nil
  | x :: L, _ :: T, hm, .cons ⟨_, h2, ds, rfl, h3⟩ r => by
    refine .cons (.tup (.inl ⟨x.2.1, updT_new hn x (hm x List.mem_cons_self), h2⟩) (DpAll_mono hs h3)) (made_dq hn hs (fun y hy => hm y (List.mem_cons_of_mem _ hy)) r)
def rSortDi (X : Cy) (n : Nat) (S : Hp) : List V → Hp → VK → Prop := fun vs H Q => ∃ (p a : Addr) (hf : NestedKey → Int) (xs : List (NestedKey × Addr × Value)) (es : List PyData), vs = [.ref p] ∧ H p = some (DX.itemsO p a) ∧ H a = some (DTO hf a xs) ∧ Paired (fun x d => Dq X.K S (.ref x.2.1) x.1.data ∧ ∃ v, RelV v x.2.2 ∧ Dq X.K S v d) xs es ∧ Same S H ∧
  (∀ d ∈ (xs.zip es).map itemD, Ody n d) ∧ Srb ((xs.zip es).map itemD) ∧ xs.length ≤ 100000 ∧
  ∀ (L : List (Addr × Obj × List V)) (q : Addr) (ys : List V), (L.map (·.1)).Nodup → (∀ x ∈ L, H x.1 = none) → updT H L q = none → DqAll X.K (updT S L) ys (sortD ((xs.zip es).map itemD)) → Q (.ref q) (upd (updT H L) q (.lst ys))
theorem cr_sortDi {n : Nat} {S : Hp} (hc : X.calm = true) (hu : X.A.units + n + 2 < cLine) : CallR X (.builtin "sorted") (rSortDi X n S) := by
  intro pins s σ H vs us Q I rv h
  obtain ⟨p, a, hf, xs, ds, rfl, hP, hH, hk, hsame, hy, hsb, hz, q⟩ := h
  obtain ⟨u, rfl, ru⟩ := vals1 rv
  obtain rfl : u = Value.ref p := ru
  have view : s.heap.IsItemsView p a := (show ObjOk X.prog X.w H s.heap p (DX.itemsO p a) from I.hok p _ hP).1
  obtain ⟨⟨lo, o, es, ep, ho, hx, hd, he⟩, _⟩ := (show ObjOk X.prog X.w H s.heap a (DTO hf a xs) from I.hok a _ hH)
  have les : es.size = xs.length := by
    rw [← Array.length_toList, he, List.length_map]
  have hz2 : es.size ≤ sizeLine := by rw [les]; exact Nat.le_trans hz (by decide)
  refine DT.sortedI (es := es) (ep := ep) (I.ok.hd hc) view ⟨o, ho, hx, hd⟩ hz2 fun h' tk as hkp hlt hl hG => ?_
  have nd : as.Nodup := List.Pairwise.imp (fun h => Nat.ne_of_lt h) hG.rise
  have pr : Paired (fun b (x : NestedKey × Addr × Value) => h'.get? b = some { cls := .type "tuple", data := .seq #[Value.ref x.2.1, x.2.2] }) as xs := by
    have key : ∀ (j : Nat) (b : Addr), as[j]? = some b → ∃ x, xs[j]? = some x ∧ h'.get? b = some { cls := .type "tuple", data := .seq #[Value.ref x.2.1, x.2.2] } := fun j b hj => by
      obtain ⟨en, hen, hg⟩ := hG.pairs j b hj
      rw [← Array.getElem?_toList, he, List.getElem?_map] at hen
      obtain ⟨x, hx2, rfl⟩ := Option.map_eq_some_iff.mp hen
      exact ⟨x, hx2, hg⟩
    have go : ∀ (as : List Addr) (xs : List (NestedKey × Addr × Value)), as.length = xs.length → (∀ (j : Nat) (b : Addr), as[j]? = some b → ∃ x, xs[j]? = some x ∧ h'.get? b = some { cls := .type "tuple", data := .seq #[Value.ref x.2.1, x.2.2] }) → Paired (fun b (x : NestedKey × Addr × Value) => h'.get? b = some { cls := .type "tuple", data := .seq #[Value.ref x.2.1, x.2.2] }) as xs := fun as => by
      induction as with
      | nil =>
        intro xs hl _
        cases xs with
        | nil => exact .nil
        | cons _ _ => simp at hl
      | cons b as ih =>
        intro xs hl hk
        cases xs with
        | nil => simp at hl
        | cons x xs =>
          obtain ⟨y, e, hg⟩ := hk 0 b rfl
          cases e
          exact .cons hg (ih xs (by simpa using hl) fun j c hj => hk (j + 1) c (by simpa using hj))
    exact go as xs (by omega) key
  obtain ⟨L, hLa, hLp⟩ := made_tups pr hk
  have hLn : (L.map (·.1)).Nodup := by rw [hLa]; exact nd
  have hab : ∀ x ∈ L, s.heap.objs.size ≤ x.1 := fun x hx => Nat.le_of_lt (hG.above x.1 (by rw [← hLa]; exact List.mem_map.mpr ⟨x, hx, rfl⟩))
  have hfr : ∀ x ∈ L, H x.1 = none := fun x hx => I.hok.fresh (hab x hx)
  have I1 : Inv X pins σ H { s with heap := h', toks := tk } := I.kept hkp
  have I2 := take_tups I L H I1 hLn fun x hx => by
    obtain ⟨t, _, h1, _⟩ := paired_mem hLp x hx
    exact ⟨hab x hx, hfr x hx, fun H2 => h1 X.prog X.w H2⟩
  have hS2 : Same S (updT S L) := fun b o e => by
    rw [updT_old fun x hx eb => by
      have := hsame _ _ e
      rw [← eb, hfr x hx] at this
      cases this]
    exact e
  have tr := trips_ref I2 (updT_same hLn hfr hsame) (made_dq hLn hS2 (fun x hx => hx) hLp) hy
  rw [hLa] at tr
  have lacc : (as.map Value.ref).length ≤ sizeLine := by rw [List.length_map, hl]; exact hz2
  have hg := sort_call (s := { s with heap := h', toks := tk }) hu I2 tr lacc hsb fun q' ys h1 h2 => q L q' ys hLn hfr h1 h2
  exact hg
/-- o.items(), o a dict of tuples -/
def tTItems (td : TE) : TE := fun σ H Q => td σ H fun x H1 => ∃ a hf xs, x = .ref a ∧ H1 a = some (DTO hf a xs) ∧ ∀ p, H1 p = none → Q (.ref p) (upd H1 p (DX.itemsO p a))
theorem pe_titems {o : Expr} {apos cpos : Pos} {td : TE} (ho : PE X o td) (hbase : attributeBase o "items" X.env (eval o X.env) = eval o X.env := by rfl) (hline : (apos.endLine == cpos.line) = true := by rfl) : PE X (.Call (.Attribute o "items" apos) [] [] cpos) (tTItems td) := by
  refine ⟨fun pins s σ H Q I h => ?_⟩
  refine wpAny_Call_method0_late hbase hline (thn (ho.run pins s σ H _ I h) fun u s1 ⟨x, H1, I1, rx, a, hf, xs, ex, d, q1⟩ => ?_)
  subst ex
  obtain rfl : u = Value.ref a := rx
  obtain ⟨t1, t2, hd⟩ := dt_type I1 d
  obtain ⟨⟨lo, ob, es, ep, hob, hx, hdt, he⟩, _⟩ := (show ObjOk X.prog X.w H1 s1.heap a (DTO hf a xs) from I1.hok a _ d)
  refine ⟨"dict", "dict.items", PySem.F.plainAttrs_dict, PySem.F.slot_dict_items, PySem.F.type_dict_items, t1, t2, Calls.callWith_builtin rfl (PySem.evalArgs_none ?_)⟩
  refine DT.callItems (es := es) (ep := ep) hd ⟨ob, hob, hx, hdt⟩ ?_
  exact ⟨.ref s1.heap.objs.size, upd H1 s1.heap.objs.size (DX.itemsO s1.heap.objs.size a), I1.laid (t' := s1.toks) (fun b u e => Heap.get?_push_of_some _ e) (Nat.le_refl _) (DX.itemsO_ok (Heap.get?_push_size _ rfl)), rfl, q1 _ (I1.hok.fresh (Nat.le_refl _))⟩
end
section
variable {X : Cy} {z : Z} {Q : Sl → Z → Prop} {pos p apos cpos : Pos} {o : Expr}
theorem tkv_items {K : PySem.W.Frag} {w : Wd} {es : List (NestedKey × PyData)} : ∀ {xs : List (NestedKey × Addr × Value)} {es : List (NestedKey × PyData)}, TKV K w xs (es.map fun q => (q.1, Sl.sh q.2)) → Paired (fun x d => Dq K w.S (.ref x.2.1) x.1.data ∧ ∃ v, RelV v x.2.2 ∧ Dq K w.S v d) xs (es.map (·.2)) ∧ (xs.zip (es.map (·.2))).map itemD = es.map fun q => .tuple [q.1.data, q.2]
  | [], [], .nil => ⟨.nil, rfl⟩
  | x :: xs, e :: es, .cons q r => by
    obtain ⟨h1, h2⟩ := tkv_items (es := []) r
    obtain ⟨q1, q2, q3, v, q4, q5⟩ := q
    refine ⟨.cons ⟨q2, v, q4, q5⟩ h1, ?_⟩
    rw [List.map_cons, List.zip_cons_cons, List.map_cons, List.map_cons, h2]
    show PyData.tuple [x.1.data, e.2] :: _ = _
    rw [q1]
theorem we_sortItems (n : Nat) (hb : Bi X "sorted" "sorted") (hc : X.calm = true) (hu : X.A.units + n + 2 < cLine) (h : WE X o z fun x z1 => ∃ (i : Nat) (hf : NestedKey → Int) (es : List (NestedKey × PyData)), x = .ob i ∧ z1.ob[i]? = some (tkO hf (es.map fun q => (q.1, Sl.sh q.2))) ∧ (∀ q ∈ es, Ody n (.tuple [q.1.data, q.2])) ∧ Srb (es.map fun q => .tuple [q.1.data, q.2]) ∧ es.length ≤ 100000 ∧
      Q (.sh (.list (sortD (es.map fun (q : NestedKey × PyData) => .tuple [q.1.data, q.2])))) z1)
    (hbase : attributeBase o "items" X.env (eval o X.env) = eval o X.env := by rfl) (hline : (apos.endLine == cpos.line) = true := by rfl)
    (he : starEach [.Call (.Attribute o "items" apos) [] [] cpos] X.env = (false, eval (.Call (.Attribute o "items" apos) [] [] cpos) X.env) :: starEach [] X.env := by rfl) (hpl : (backTo pos (starEach [] X.env)).any (·.1) = false := by rfl) :
    WE X (.Call (.Name "sorted" p) [.Call (.Attribute o "items" apos) [] [] cpos] [] pos) z Q := fun c w σ k bb hk => by
  refine tE_of (pe_callB (r := fun vs H Q => ∃ S, rSortDi X n S vs H Q) (fun pins s σ H vs us Q I rv ⟨S, h⟩ => cr_sortDi (S := S) hc hu pins s σ H vs us Q I rv h) hb.g.g hb.m hb.v (pa_cons (pe_titems peB hbase hline) pa_nil he) hb.g.n hb.g.d he hpl) ?_
  refine h c w σ _ bb fun v x w1 z1 b1 l1 r1 ⟨i, hf, es, ex, hn, hy, hs, hz, hq⟩ => ?_
  subst ex
  obtain ⟨a, ha, rfl⟩ := r1
  obtain ⟨_, xs, hl, hnd, hp⟩ := tk_at (b1.ob i _ a hn ha)
  refine ⟨a, hf, xs, rfl, hl, fun P hP => ?_⟩
  obtain ⟨h1, h2⟩ := tkv_items (es := []) hp
  have hPa : P ≠ a := fun e => by rw [e, hl] at hP; cases hP
  have as := b1.asideNew hP
  have b2 := b1.aside (o := DX.itemsO P a) as
  have hlen := hp.len
  rw [List.length_map] at hlen
  refine ⟨w1.S, P, a, hf, xs, es.map (·.2), rfl, upd_same, by rw [upd_ne (fun e => hPa e.symm)]; exact hl, h1, b2.same, ?_, by rw [h2]; exact hs, by omega, fun L q ys hLn hLf hq0 hD => ?_⟩
  · rw [h2]
    intro d hd
    obtain ⟨q, hq, rfl⟩ := List.mem_map.mp hd
    exact hy q hq
  · rw [h2] at hD
    obtain ⟨b3, l3⟩ := b2.newTs hLn hLf
    exact new_lstF b3 hD ((hk.le l1).le (le_aside.trans l3)) hq q hq0
end
end Dl

namespace Dl
open PySem PySem.Spec L2
open PyProof.Rows hiding St
/-! ### max of three; a list taken apart -/
theorem call_max3I {X : Cy} (hc : X.calm = true) : CallR X (.builtin "max") (fun xs H Q => ∃ i j k : Int, xs = [.int i, .int j, .int k] ∧ Q (.int (max (max i j) k)) H) := by
  intro pins s σ H xs us Q I r h
  obtain ⟨i, j, k, rfl, q⟩ := h
  cases r with
  | cons r1 r =>
    cases r with
    | cons r2 r =>
      cases r with
      | cons r3 r =>
        cases r
        obtain ⟨t1, rfl⟩ := r1
        obtain ⟨t2, rfl⟩ := r2
        obtain ⟨t3, rfl⟩ := r3
        refine max_three_ints (I.ok.hd hc) fun h' tk kp => ⟨.int (max (max i j) k), H, I.kept kp, ?_, q⟩
        show ∃ t, _ = Value.int (max (max i j) k) t
        by_cases h1 : j > i
        · rw [if_pos h1]
          by_cases h2 : k > j
          · rw [if_pos h2]
            exact ⟨t3, by rw [show max (max i j) k = k by omega]⟩
          · rw [if_neg h2]
            exact ⟨t2, by rw [show max (max i j) k = j by omega]⟩
        · rw [if_neg h1]
          by_cases h2 : k > i
          · rw [if_pos h2]
            exact ⟨t3, by rw [show max (max i j) k = k by omega]⟩
          · rw [if_neg h2]
            exact ⟨t1, by rw [show max (max i j) k = i by omega]⟩
section
variable {X : Cy} {z : Z} {Q : Sl → Z → Prop}
theorem cd_max3 {i j k : Int} (hc : X.calm = true) (h : Q (.sh (.int (max (max i j) k))) z) : CD X (.builtin "max") [.sh (.int i), .sh (.int j), .sh (.int k)] z Q := fun c w σ vs kk b rr hk => by
  cases rr with
  | cons q1 r =>
    cases r with
    | cons q2 r =>
      cases r with
      | cons q3 r =>
        cases r
        cases Dp_int q1
        cases Dp_int q2
        cases Dp_int q3
        exact cB_of (call_max3I hc) ⟨i, j, k, rfl, hk _ _ w z b (.refl w) (vI _) h⟩
end
theorem gd_unl {K : PySem.W.Frag} {vs is : List Nat} {n : Nat} {y : Sl} {ds : List PyData} {z : Z} {Q : Z → Prop} (hy : y = .sh (.list ds)) (hv : ∀ i ∈ is, i ∈ vs) (hl : ds.length = is.length) (hn : is.length = n) (h : Q ⟨setSls z.sl is ds, z.ob⟩) : GD K vs (gUnl K n (gNames is)) y z Q := by
  subst hy
  intro c w σ v k bb r hk
  obtain ⟨a, xs, rfl, hq, hs⟩ := Dp_lstI r
  exact ⟨a, xs, rfl, .inl (Same.rd bb.same hq), by rw [DpAll_len hs, hl, hn], gds_names hv hl h c w σ xs k bb hs fun σ' z' b' e q => hk w σ' z' b' (.refl w) e q⟩
end Dl

namespace Dl
open PySem PySem.Spec L2
open PyProof.Rows hiding St
/-! ### sorted(xs, key=f), f a def that tells a text -/
section
variable {X : Cy} {pins : List (Addr × Obj)} {σ : St} {H H' : Hp} {s : Shared} {h h' : Heap}
theorem hok_poke {P : Program} {w : World} {ch : List Addr} (x : HOk P w H h) (hn : ∀ b ∈ ch, H b = none) (keep : ∀ b o, b ∉ ch → h.get? b = some o → h'.get? b = some o) : HOk P w H h' := fun a o e =>
  (x a o e).stay (fun b u hb q => keep b u (fun z => by
    have n := hn b z
    rcases hb with rfl | hb
    · rw [n] at e
      cases e
    · rw [n] at hb
      cases hb) q) (fun _ q => q) (fun _ _ q => q)
theorem hok_lay {P : Program} {w : World} {a : Addr} {o : HO} (x : HOk P w H h) (hn : H a = none) (new : ObjOk P w (upd H a o) h a o) : HOk P w (upd H a o) h := fun b u e => by
  have ne : ∀ {c : Addr} {v : HO}, H c = some v → c ≠ a := fun q z => by
    rw [z, hn] at q
    cases q
  by_cases hb : b = a
  · subst hb
    rw [upd_same] at e
    cases e
    exact new
  · rw [upd_ne hb] at e
    exact (x b u e).stay (fun _ _ _ q => q) (fun c q => by rw [upd_ne (ne q)]; exact q) fun c xs q => by rw [upd_ne (ne q)]; exact q
/-- b isn't one of those that the frame watches -/
structure Own (X : Cy) (pins : List (Addr × Obj)) (b : Addr) : Prop where
  z : X.s_0.heap.objs.size ≤ b
  l : b ≠ X.env.locals
  c : ∀ x c, X.env.cells.lookup x = some c → c ≠ b
  p : ∀ p ∈ X.pn ++ pins, p.1 ≠ b
  f : b ∉ X.fs
theorem own_new {b : Addr} (I : Inv X pins σ H s) (hb : s.heap.objs.size ≤ b) : Own X pins b where
  z := Nat.le_trans I.sz hb
  l := fun e => by
    have h1 := I.lt
    rw [e] at hb
    exact absurd (Nat.lt_of_lt_of_le h1 hb) (Nat.lt_irrefl _)
  c := fun x c e z => by
    obtain ⟨v, o, ho, _⟩ := I.cell x c e
    have h1 := Heap.lt_size ho
    rw [z] at h1
    exact absurd (Nat.lt_of_lt_of_le h1 hb) (Nat.lt_irrefl _)
  p := fun p hp e => by
    have h1 := Heap.lt_size (I.pin p hp).1
    rw [e] at h1
    exact absurd (Nat.lt_of_lt_of_le h1 hb) (Nat.lt_irrefl _)
  f := I.nofs hb
/-- objects of ours that aren't tracked, changed; one may be tracked then -/
theorem inv_poke {ch : List Addr} {t' : Nat} (I : Inv X pins σ H s) (hch : ∀ b ∈ ch, Own X pins b) (keep : ∀ b o, b ∉ ch → s.heap.get? b = some o → h'.get? b = some o)
    (free : ∀ b, b ∉ ch → H b = none → H' b = none) (tr : ∀ b o, H b = some o → H' b = some o) (hok : HOk X.prog X.w H' h') : Inv X pins σ H' { s with heap := h', toks := t' } :=
  I.step (g' := s.gens) (d' := s.drawn) (ch := ch) (fun b hb => ⟨.inr (hch b hb).z, (hch b hb).l, (hch b hb).c, (hch b hb).p⟩) (fun b o _ _ hc e _ => keep b o hc e) (fun b o _ _ hc e _ => ⟨o.slots, keep b o hc e⟩) (fun b o hc _ n => free b hc n) (fun b o hc e => ⟨o, keep b o hc e⟩)
    (fun b xs e => tr b _ e) (fun b o u e => tr b _ e) (fun b ps e => ⟨#[], by rw [tr b _ e]; simp⟩) (fun m ⟨o, es, ep, ho, r⟩ => ⟨o, es, ep, keep _ _ (fun z => (hch _ z).l rfl) ho, r⟩) hok I.bare
end
def sortK (txt : PyData → Str) (ds : List PyData) : List PyData := ds.mergeSort (PySem.W.dataLe false fun d => .str (txt d))
theorem sortK_perm (txt : PyData → Str) (ds : List PyData) : (sortK txt ds).Perm ds := List.mergeSort_perm _ _
/-- a value that tells of data their texts -/
def KeyFn (X : Cy) (c : Ct) (σ : St) (z : Z) (f : Value) (txt : PyData → Str) (ds : List PyData) : Prop :=
  ∀ (w1 : Wd) (v : V) (d : PyData), d ∈ ds → B X.K c w1 σ z → Dq X.K w1.S v d → ∀ (pins : List (Addr × Obj)) (τ : St) (s : Shared) (u : Value), Inv X pins τ w1.H s → RelV v u →
    wpAny (model X.prog X.w) X.A.in1.in1 (call f [u]) (fun r s' => ∃ w2 t, w1.Le w2 ∧ B X.K c w2 σ z ∧ Inv X pins τ w2.H s' ∧ r = .str (txt d) t) (fun _ _ => False) s
section
variable {X : Cy} {c : Ct} {w : Wd} {σ τ : St} {z : Z} {pins : List (Addr × Obj)} {s : Shared} {f : Value} {txt : PyData → Str} {a kS : Addr} {e1 : Nat} {vs : List Value} {xs : List V} {ds : List PyData} {P : PySem.Fin → Shared → Prop} {E : Value → Shared → Prop}
theorem vals_at : ∀ {xs : List V} {vs : List Value} {i : Nat} {x : V} {v : Value}, Vals xs vs → xs[i]? = some x → vs[i]? = some v → RelV x v
  | _, _, 0, _, _, .cons r _, h1, h2 => by
    cases h1
    cases h2
    exact r
  | _, _, i + 1, _, _, .cons _ t, h1, h2 => vals_at (i := i) t h1 h2
theorem dqAll_at {K : PySem.W.Frag} {S : Hp} : ∀ {xs : List V} {ds : List PyData} {i : Nat} {x : V} {d : PyData}, DqAll K S xs ds → xs[i]? = some x → ds[i]? = some d → Dq K S x d
  | _, _, 0, _, _, .cons r _, h1, h2 => by
    cases h1
    cases h2
    exact r
  | _, _, i + 1, _, _, .cons _ t, h1, h2 => dqAll_at (i := i) t h1 h2
theorem each_vals {K : PySem.W.Frag} {S : Hp} : ∀ {vs : List Value} {xs : List V} {ds : List PyData}, Vals xs vs → DqAll K S xs ds → PySem.W.EachIs (fun v d => ∃ x, RelV x v ∧ Dq K S x d) vs ds
  | _, _, _, .nil, .nil => .nil
  | _, _, _, .cons r t, .cons q t2 => .cons ⟨_, r, q⟩ (each_vals t t2)
theorem vals_each {K : PySem.W.Frag} {S : Hp} : ∀ {vs : List Value} {ds : List PyData}, PySem.W.EachIs (fun v d => ∃ x, RelV x v ∧ Dq K S x d) vs ds → ∃ xs, Vals xs vs ∧ DqAll K S xs ds
  | _, _, .nil => ⟨[], .nil, .nil⟩
  | _, _, .cons ⟨x, r, q⟩ t => by
    obtain ⟨xs, h1, h2⟩ := vals_each t
    exact ⟨x :: xs, .cons r h1, .cons q h2⟩
theorem each_read {h : Heap} {txt : PyData → Str} : ∀ {vs : List Value} {ds : List PyData}, PySem.W.EachIs (fun v d => ∃ t, v = .str (txt d) t) vs ds → PySem.W.EachIs (fun v k => ∃ as, Reads h v k as) vs (ds.map fun d => .str (txt d))
  | _, _, .nil => .nil
  | _, _, .cons ⟨t, e⟩ r => .cons ⟨[], by rw [e]; exact .str _ _⟩ (each_read r)
open PySem.W in
theorem key_rest {pins : List (Addr × Obj)} (hu : X.A.units + 3 < cLine) (kf : KeyFn X c σ z f txt ds) (b : B X.K c w σ z) (I : Inv X (pins ++ [(a, seqObj "list" #[] e1)]) τ w.H s) (nk : s.heap.get? kS = some (seqObj "list" #[] 0)) (hkn : w.H kS = none)
    (oa : Own X pins a) (ok : Own X (pins ++ [(a, seqObj "list" #[] e1)]) kS) (hv : Vals xs vs) (hd : DqAll X.K w.S xs ds) (hz : vs.length ≤ sizeLine)
    (h : ∀ (w2 : Wd) (ys : List V) (s2 : Shared), w.Le w2 → B X.K c w2 σ z → w2.H a = none → DqAll X.K w2.S ys (sortK txt ds) → Inv X pins τ (upd w2.H a (.lst ys)) s2 → P (.done (.ret .none)) s2) :
    wpAny (model X.prog X.w) X.A.in1.in1 (ksk_rest a f false vs.toArray e1 (.ref kS)) P E s := by
  have hka : kS ≠ a := fun e => ok.p (a, seqObj "list" #[] e1) (List.mem_append_right _ (List.mem_append_right _ List.mem_cons_self)) e.symm
  have hll : vs.length = ds.length := hv.length.symm.trans (DpAll_len hd)
  have mem_a : ∀ {o : Obj}, (a, seqObj "list" #[] e1) ∈ X.pn ++ (pins ++ [(a, seqObj "list" #[] e1), (kS, o)]) := fun {o} => List.mem_append_right _ (List.mem_append_right _ List.mem_cons_self)
  have mem_k : ∀ {o : Obj}, (kS, o) ∈ X.pn ++ (pins ++ [(a, seqObj "list" #[] e1), (kS, o)]) := fun {o} => List.mem_append_right _ (List.mem_append_right _ (List.mem_cons_of_mem _ List.mem_cons_self))
  have pin2 : ∀ {H2 : Hp} {s2 : Shared} {o : Obj}, Inv X (pins ++ [(a, seqObj "list" #[] e1)]) τ H2 s2 → s2.heap.get? kS = some o → H2 kS = none → (∀ v : Option Value, o.data ≠ .cell v) → Inv X (pins ++ [(a, seqObj "list" #[] e1), (kS, o)]) τ H2 s2 := fun {H2 s2 o} I2 e n hc => I2.pins_of fun p hp => by
    rcases List.mem_append.mp hp with hp | hp
    · exact I2.pin p (List.mem_append_right _ (List.mem_append_left _ hp))
    · simp only [List.mem_cons, List.not_mem_nil, or_false] at hp
      rcases hp with rfl | rfl
      · exact I2.pin _ (List.mem_append_right _ (List.mem_append_right _ List.mem_cons_self))
      · exact ⟨e, n, ok.l, ok.f, hc⟩
  have unpin : ∀ {H2 : Hp} {s2 : Shared} {o : Obj}, Inv X (pins ++ [(a, seqObj "list" #[] e1), (kS, o)]) τ H2 s2 → Inv X (pins ++ [(a, seqObj "list" #[] e1)]) τ H2 s2 := fun {H2 s2 o} I2 => I2.pins_of fun p hp => by
    rcases List.mem_append.mp hp with hp | hp
    · exact I2.pin p (List.mem_append_right _ (List.mem_append_left _ hp))
    · rw [List.mem_singleton.mp hp]
      exact I2.pin _ mem_a
  have nocell : ∀ {xs : Array Value} {n : Nat} (v : Option Value), (seqObj "list" xs n).data ≠ .cell v := fun {xs n} v e => by cases e
  unfold ksk_rest
  refine wpAny_bind (wpAny_rule ?_)
  first
    | rw [List.forIn_toArray]
    | (rw [← Array.forIn_toList]; simp only [List.toList_toArray])
    | rw [← Array.forIn_toList]
  refine wpAny_bind (ksk_fold (fun i s' => ∃ (w' : Wd) (kA : Array Value) (e : Nat), w.Le w' ∧ B X.K c w' σ z ∧ Inv X (pins ++ [(a, seqObj "list" #[] e1), (kS, seqObj "list" kA e)]) τ w'.H s' ∧ EachIs (fun v d => ∃ t, v = .str (txt d) t) kA.toList (ds.take i)) vs 0 s
    ⟨w, #[], 0, .refl w, b, pin2 I nk hkn nocell, by rw [List.take_zero]; exact EachIs.nil⟩ ?step ?done)
  case step =>
    rintro j x s' hx ⟨w', kA, e, l1, b1, I1, hk⟩
    simp only [Nat.zero_add] at hk ⊢
    have hj : j < vs.length := (List.getElem?_eq_some_iff.mp hx).1
    have hjd : j < ds.length := by omega
    have hjx : j < xs.length := by rw [hv.length]; exact hj
    have hkj : ds[j]? = some ds[j] := List.getElem?_eq_getElem hjd
    have hxj : xs[j]? = some xs[j] := List.getElem?_eq_getElem hjx
    have rj : RelV xs[j] x := vals_at hv hxj hx
    have qj : Dq X.K w'.S xs[j] ds[j] := Dp_mono l1.st (dqAll_at hd hxj hkj)
    have hz2 : kA.size ≤ vs.length := by
      have h1 := hk.length
      rw [Array.length_toList, List.length_take] at h1
      omega
    refine wpAny_bind (wpAny_attempt (wpAny_mono (kf w' xs[j] ds[j] (List.getElem_mem hjd) b1 qj _ τ s' x I1 rj) (fun r s'' he => ?_) fun _ _ hF => hF.elim))
    obtain ⟨w2, t, l2, b2, I2, rfl⟩ := he
    try dsimp only
    have nk2 : s''.heap.get? kS = some (seqObj "list" kA e) := (I2.pin _ mem_k).1
    have hn2 : w2.H kS = none := (I2.pin _ mem_k).2.1
    have s1 := Heap.SameBut.update s''.heap kS (Obj.mapSeq (·.push (.str (txt ds[j]) t)))
    obtain ⟨c2, hc2⟩ : ∃ c2, (s''.heap.update kS (Obj.mapSeq (·.push (.str (txt ds[j]) t)))).get? kS = some (seqObj "list" (kA.push (.str (txt ds[j]) t)) c2) := ⟨_, get?_update_seq nk2 (·.push (.str (txt ds[j]) t))⟩
    have ek : ds.take (j + 1) = ds.take j ++ [ds[j]] := by rw [List.take_add_one, hkj]; simp
    have ea : (kA.push (.str (txt ds[j]) t)).toList = kA.toList ++ [.str (txt ds[j]) t] := by simp
    refine wpAny_bind (listUpdate_at nk2 rfl ?_ (Nat.le_trans hz2 hz) (Nat.le_trans (Nat.le_of_eq (Array.size_push ..)) (Nat.succ_le_succ (Nat.le_trans hz2 hz))))
    have keep : ∀ b o, b ∉ [kS] → s''.heap.get? b = some o → (s''.heap.update kS (Obj.mapSeq (·.push (.str (txt ds[j]) t)))).get? b = some o := fun b o hb q => (s1.2 b (fun e => hb (by rw [e]; exact List.mem_cons_self))).trans q
    have I3 : Inv X (pins ++ [(a, seqObj "list" #[] e1)]) τ w2.H { s'' with heap := s''.heap.update kS (Obj.mapSeq (·.push (.str (txt ds[j]) t))), toks := s''.toks } :=
      inv_poke (ch := [kS]) (t' := s''.toks) (unpin I2) (fun b hb => by rw [List.mem_singleton.mp hb]; exact ok) keep (fun _ _ n => n) (fun _ _ q => q) (hok_poke I2.hok (fun b hb => by rw [List.mem_singleton.mp hb]; exact hn2) keep)
    refine wpAny_pure ⟨rfl, w2, kA.push (.str (txt ds[j]) t), c2, l1.trans l2, b2, pin2 I3 hc2 hn2 nocell, ?_⟩
    rw [ea, ek]
    exact each_snoc (R := fun (v : Value) (d : PyData) => ∃ t, v = Value.str (txt d) t) ⟨t, rfl⟩ hk
  case done =>
    rintro s' ⟨w', kA, e, l1, b1, I1, hk⟩
    have e3 : ds.take (0 + vs.length) = ds := List.take_of_length_le (by omega)
    rw [e3] at hk
    have hsz : kA.size = vs.length := by
      have h1 := hk.length
      rw [Array.length_toList] at h1
      omega
    have nk' : s'.heap.get? kS = some (seqObj "list" kA e) := (I1.pin _ mem_k).1
    have hnk : w'.H kS = none := (I1.pin _ mem_k).2.1
    have na' : s'.heap.get? a = some (seqObj "list" #[] e1) := (I1.pin _ mem_a).1
    have hna : w'.H a = none := (I1.pin _ mem_a).2.1
    obtain ⟨G, g1, g2⟩ := restrict s'.heap fun b => decide (b ≠ kS)
    have gS : G.get? kS = none := g2 kS (decide_eq_false fun z => z rfl)
    have gk : ∀ b o, b ≠ kS → s'.heap.get? b = some o → G.get? b = some o := fun b o hb q => by
      rw [g1 b (decide_eq_true hb)]
      exact q
    have gs : KeepsBut a G s'.heap := fun b o _ q => by
      by_cases hb : b = kS
      · rw [hb, gS] at q
        cases q
      · rw [← g1 b (decide_eq_true hb)]
        exact q
    have hk' : EachIs (fun v k => ∃ as, Reads s'.heap v k as) kA.toList (ds.map fun d => .str (txt d)) := each_read hk
    have hal : AllAlike (ds.map fun d => PyData.str (txt d)) := AllAlike.of fun _ _ => by simp [alike]
    have hsk : Sortable (ds.map fun d => PyData.str (txt d)) := Sortable.others fun _ => ⟨by simp, by simp⟩
    have hun : ∀ d, d ∈ (ds.map fun d => PyData.str (txt d)) → X.A.in1.in1.units + d.depth < cLine := fun d hd => by
      obtain ⟨q, _, rfl⟩ := List.mem_map.mp hd
      show X.A.units + 1 + 1 + (PyData.str (txt q)).depth < cLine
      simp only [PyData.depth]
      omega
    try dsimp only
    refine wpAny_bind (listItems_at nk' rfl ?_)
    refine keyH_end (κ := dataKind s'.heap (ds.map fun d => .str (txt d))) (h₁ := G) gs gS nk' na' hka (SortsAt.data (s := s') hk' hal hsk hun) hsz hz fun h3 tk3 c3 k3 n3 => ?_
    have ko : KeyedOut false (ds.map fun d => PyData.str (txt d)) vs (sortVals (dataKind s'.heap (ds.map fun d => .str (txt d))) false kA.toList vs) := ⟨s'.heap, kA.toList, hal, rfl, hk'⟩
    obtain ⟨ys, hy1, hy2⟩ := vals_each (K := X.K) (S := w'.S) (keyedOut_each (fun d => PyData.str (txt d)) ko (each_vals hv (DpAll_mono l1.st hd)))
    have keep : ∀ b o, b ∉ [a, kS] → s'.heap.get? b = some o → h3.get? b = some o := fun b o hb q => k3 b o (fun e => hb (by rw [e]; exact List.mem_cons_self)) (gk b o (fun e => hb (by rw [e]; exact List.mem_cons_of_mem _ List.mem_cons_self)) q)
    have hch : ∀ b ∈ [a, kS], w'.H b = none := fun b hb => by
      simp only [List.mem_cons, List.not_mem_nil, or_false] at hb
      rcases hb with rfl | rfl
      · exact hna
      · exact hnk
    have okp : Own X pins kS := ⟨ok.z, ok.l, ok.c, fun p hp => ok.p p (by
      rcases List.mem_append.mp hp with hp | hp
      · exact List.mem_append_left _ hp
      · exact List.mem_append_right _ (List.mem_append_left _ hp)), ok.f⟩
    have Ip : Inv X pins τ w'.H s' := (unpin I1).pins_of fun p hp => (unpin I1).pin p (List.mem_append_right _ (List.mem_append_left _ hp))
    refine h w' ys _ l1 b1 hna hy2 (inv_poke (ch := [a, kS]) (t' := tk3) Ip (fun b hb => ?_) keep (fun b hb n => ?_) (fun b o q => ?_) (hok_lay (hok_poke I1.hok hch keep) hna ⟨?_, _, c3, hy1, n3⟩))
    · simp only [List.mem_cons, List.not_mem_nil, or_false] at hb
      rcases hb with rfl | rfl
      · exact oa
      · exact okp
    · rw [upd_ne (fun e => hb (by rw [e]; exact List.mem_cons_self))]
      exact n
    · rw [upd_ne (fun e => by rw [e, hna] at q; cases q)]
      exact q
    · have e4 := (sortK_perm txt ds).length_eq
      unfold sortK at e4
      rw [DpAll_len hy2, e4]
      omega
open PySem.W in
/-- sorted(xs, key=f) -/
theorem sorted_key {l : Addr} {Q : VK} (hu : X.A.units + 3 < cLine) (kf : KeyFn X c σ z f txt ds) (hf : ∀ x : Addr, Builtin.«list.sort» ⟨[.ref x], [(Str.ofString "key", f)]⟩ = ksk_tree x f false) (b : B X.K c w σ z) (I : Inv X pins τ w.H s) (hl : s.heap.IsList l vs.toArray) (hv : Vals xs vs) (hd : DqAll X.K w.S xs ds) (hz : vs.length ≤ sizeLine)
    (h : ∀ (w2 : Wd) (p : Addr) (ys : List V), w.Le w2 → B X.K c w2 σ z → w2.H p = none → DqAll X.K w2.S ys (sortK txt ds) → Q (.ref p) (upd w2.H p (.lst ys))) :
    wpAny (model X.prog X.w) X.A (call (.builtin "sorted") [.ref l] [(Str.ofString "key", f)]) (EP X pins τ Q) X.xe s := by
  refine PySem.W.sorted_of_sort hl hz (ksk_s1 _ _) (fun _ => ksk_l1 _ _) fun E' => ?_
  rw [hf]
  have ho := copyHeap_at s.heap vs
  obtain ⟨e1, ho1⟩ : ∃ e1, ((copyHeap s.heap vs).update (s.heap.objs.size + 1) (Obj.mapSeq fun _ => (#[] : Array Value))).get? (s.heap.objs.size + 1) = some (seqObj "list" #[] e1) := ⟨_, get?_update_seq ho fun _ => #[]⟩
  have ha : s.heap.objs.size + 1 < (copyHeap s.heap vs).objs.size := Heap.lt_size ho
  have hkS : (((copyHeap s.heap vs).update (s.heap.objs.size + 1) (Obj.mapSeq fun _ => (#[] : Array Value))).push (seqObj "tuple" vs.toArray 0)).objs.size = (copyHeap s.heap vs).objs.size + 1 := by rw [size_push', Heap.size_update]
  unfold ksk_tree
  refine wpAny_bind (listItems_at ho rfl ?_)
  refine wpAny_bind (listUpdate_at ho rfl ?_ (by rw [List.size_toArray]; exact hz) (Nat.zero_le _))
  refine wpAny_bind (seqEpoch_at ho1 rfl ?_)
  refine wpAny_bind (wpAny_newTuple ?_ (by show vs.length ≤ _; exact hz))
  refine wpAny_bind (wpAny_newList ?_ (Nat.zero_le _))
  refine wpAny_holding ?_
  have kp : ∀ b o, s.heap.get? b = some o → (sortingHeap (copyHeap s.heap vs) (s.heap.objs.size + 1) vs).get? b = some o := fun b o q => sortingHeap_old (Nat.ne_of_lt (Nat.lt_succ_of_lt (Heap.lt_size q))) (copyHeap_old q)
  have I1 : Inv X pins τ w.H { s with heap := sortingHeap (copyHeap s.heap vs) (s.heap.objs.size + 1) vs, toks := s.toks } := I.kept kp
  have hna : w.H (s.heap.objs.size + 1) = none := I.hok.fresh (Nat.le_succ _)
  have oa : Own X pins (s.heap.objs.size + 1) := own_new I (Nat.le_succ _)
  have hat : (sortingHeap (copyHeap s.heap vs) (s.heap.objs.size + 1) vs).get? (s.heap.objs.size + 1) = some (seqObj "list" #[] e1) := Heap.get?_push_of_some _ (Heap.get?_push_of_some _ ho1)
  have nocell : ∀ (v : Option Value), (seqObj "list" #[] e1).data ≠ .cell v := fun v e => by cases e
  have I2 : Inv X (pins ++ [(s.heap.objs.size + 1, seqObj "list" #[] e1)]) τ w.H { s with heap := sortingHeap (copyHeap s.heap vs) (s.heap.objs.size + 1) vs, toks := s.toks } := I1.pins_of fun p hp => by
    rcases List.mem_append.mp hp with hp | hp
    · exact I1.pin p (List.mem_append_right _ hp)
    · rw [List.mem_singleton.mp hp]
      exact ⟨hat, hna, oa.l, oa.f, nocell⟩
  have hle : s.heap.objs.size ≤ (copyHeap s.heap vs).objs.size + 1 := by omega
  have okk : Own X (pins ++ [(s.heap.objs.size + 1, seqObj "list" #[] e1)]) ((copyHeap s.heap vs).objs.size + 1) := ⟨(own_new I hle).z, (own_new I hle).l, (own_new I hle).c, fun p hp => by
    rcases List.mem_append.mp hp with hp | hp
    · exact (own_new I hle).p p (List.mem_append_left _ hp)
    · rcases List.mem_append.mp hp with hp | hp
      · exact (own_new I hle).p p (List.mem_append_right _ hp)
      · rw [List.mem_singleton.mp hp]
        exact fun e => by
          have e : s.heap.objs.size + 1 = (copyHeap s.heap vs).objs.size + 1 := e
          omega, (own_new I hle).f⟩
  have nk : (sortingHeap (copyHeap s.heap vs) (s.heap.objs.size + 1) vs).get? ((copyHeap s.heap vs).objs.size + 1) = some (seqObj "list" #[] 0) := by
    rw [← hkS]
    exact Heap.get?_push_size _ rfl
  rw [hkS]
  exact key_rest (s := { s with heap := sortingHeap (copyHeap s.heap vs) (s.heap.objs.size + 1) vs, toks := s.toks }) hu kf b I2 nk (I.hok.fresh hle) oa okk hv hd hz fun w2 ys s2 l2 b2 hn2 hq I3 => ⟨rfl, .ref (s.heap.objs.size + 1), _, I3, rfl, h w2 _ ys l2 b2 hn2 hq⟩
theorem keyFn_of {x p1 : Str} {k kk : Nat} {F : List PyData → PyData → Prop} (C : Cf X x k [p1] (PureR F)) (hr : RoomG kk X.A) (hle : k + 2 ≤ kk) (hF : ∀ d ∈ ds, F [d] (.str (txt d))) :
    ∃ fa, X.mg x = some (.ref fa) ∧ PySem.W.keepIn X.K (.ref fa) = true ∧ KeyFn X c σ z (.ref fa) txt ds := by
  obtain ⟨f, fd, G, hm, hk, hb⟩ := C.d.ex
  refine ⟨f, hm, hk, fun w1 v d hd b r pins τ s u I ru => ?_⟩
  have hq : spD X.K 1 (PureR F) ([v] ++ []) w1.H (fun v' H' => ∃ w2, w1.Le w2 ∧ B X.K c w2 σ z ∧ w2.H = H' ∧ Vl X.K w2 v' (.sh (.str (txt d)))) E0 := call_pure (xs := [.sh d]) (ds := [d]) (d := .str (txt d)) (Q := fun x z' => x = .sh (.str (txt d)) ∧ z' = z) 1 b (.cons r .nil) rfl rfl (hF d hd) ⟨rfl, rfl⟩ fun v' x w' z' b' l' r' ⟨e1, e2⟩ => ⟨w', l', by rw [← e2]; exact b', rfl, by rw [← e1]; exact r'⟩
  have hr2 : RoomG (k + 2) X.A := hr.mono hle
  have hr1 : RoomG k X.A.in1.in1 := ⟨Room.in1 (Room.in1 hr2.r), hr2.g⟩
  refine wpAny_call (codeAny_mono (G.go X.A.in1.in1 X.stack s w1.H ⟨[u], []⟩ ([u] ++ []) ([v] ++ []) _ E0 hr1 (Env0.in1 (Env0.in1 I.env0)) (hb s [u] I.kIn rfl) (.cons ru .nil) hq) fun r s' hq => ?_)
  match r, hq with
  | .error e, hq => exact hq.elim
  | .ok (.ret u'), hq =>
    obtain ⟨v', H', I', r', w2, l2, b2, rfl, q⟩ := I.after hq
    cases Dp_str q
    obtain ⟨t, rfl⟩ := r'
    exact ⟨w2, t, l2, b2, I', rfl⟩
  | .ok .next, hq => exact hq.elim
  | .ok .brk, hq => exact hq.elim
  | .ok .cont, hq => exact hq.elim
def rSortK (X : Cy) (f : Addr) : List V → List V → Hp → VK → Prop := fun vs zs H Q => ∃ (l : Addr) (xs : List V) (ds : List PyData) (txt : PyData → Str) (c : Ct) (w : Wd) (σ : St) (z : Z), vs = [.ref l] ∧ zs = [.ref f] ∧ w.H = H ∧ B X.K c w σ z ∧ SqL X.K H l xs ∧ DqAll X.K w.S xs ds ∧ KeyFn X c σ z (.ref f) txt ds ∧
  ∀ (w2 : Wd) (p : Addr) (ys : List V), w.Le w2 → B X.K c w2 σ z → w2.H p = none → DqAll X.K w2.S ys (sortK txt ds) → Q (.ref p) (upd w2.H p (.lst ys))
theorem cr_sortK {f : Addr} (hu : X.A.units + 3 < cLine) : CallRK X (.builtin "sorted") [Str.ofString "key"] (rSortK X f) := by
  intro pins s τ H vs zs us ws Q I r1 r2 h
  obtain ⟨l, xs, ds, txt, c, w, σ, z, rfl, rfl, rfl, b, hl, hd, kf, q⟩ := h
  obtain ⟨u, rfl, ru⟩ := vals1 r1
  obtain rfl : u = Value.ref l := ru
  obtain ⟨u2, rfl, ru2⟩ := vals1 r2
  obtain rfl : u2 = Value.ref f := ru2
  obtain ⟨its, r', pl, hz⟩ := I.list hl
  exact sorted_key hu kf (fun _ => PyProof.Rows.ksk_t1 _ _) b I pl.isList r' hd (by rw [← r'.length]; exact hz) q
/-- sorted(e, key=x), x a def that tells a text -/
theorem we_sortedKey {Q : Sl → Z → Prop} {e : Expr} {x p1 : Str} {p fp kp pos : Pos} {k kk : Nat} {F : List PyData → PyData → Prop} (txt : PyData → Str) (C : Cf X x k [p1] (PureR F)) (hb : Bi X "sorted" "sorted") (hr : RoomG kk X.A) (hle : k + 2 ≤ kk)
    (h : WE X e z fun y z1 => ∃ ds, (y = .sh (.list ds) ∨ ∃ i, y = .ob i ∧ z1.ob[i]? = some (.lst (ds.map .sh))) ∧ (∀ d ∈ ds, F [d] (.str (txt d))) ∧ Q (.sh (.list (sortK txt ds))) z1)
    (he : backTo pos (starEach [e] X.env) = (false, eval e X.env) :: backTo pos (starEach [] X.env) := by rfl) (hpl : (backTo pos (starEach [e] X.env)).any (·.1) = false := by rfl) (he2 : starEach [e] X.env = (false, eval e X.env) :: starEach [] X.env := by rfl)
    (hall : (backToKw pos (keywordEach [⟨some "key", .Name x fp, kp⟩] X.env)).all (·.1.isSome) = true := by rfl) (hnone : (backToKw pos (keywordEach [⟨some "key", .Name x fp, kp⟩] X.env)).any (·.1.isNone) = false := by rfl) (hks : (backToKw pos (keywordEach [⟨some "key", .Name x fp, kp⟩] X.env)).filterMap (·.1) = [Str.ofString "key"] := by rfl) :
    WE X (.Call (.Name "sorted" p) [e] [⟨some "key", .Name x fp, kp⟩] pos) z Q := fun c w σ k2 b hk => by
  obtain ⟨f, fd, G, hm, hkp, hbb⟩ := C.d.ex
  have hu : X.A.units + 3 < cLine := by
    have := hr.r.un
    omega
  refine tE_of (pe_callBK (r := rSortK X f) (cr_sortK hu) hb.g.g hb.m hb.v (pa_cons peB pa_nil he2) (pk_cons (pe_glob (v := .ref f) C.g.g hm rfl C.g.d) pk_nil) hb.g.n hb.g.d he hpl hall hnone hks) ?_
  refine h c w σ _ b fun v y w1 z1 b1 l1 r ⟨ds, hy, hF, hq⟩ => ?_
  obtain ⟨f2, hm2, _, kf⟩ := keyFn_of (c := c) (σ := σ) (z := z1) C hr hle hF
  rw [hm] at hm2
  cases hm2
  have fin : ∀ (w2 : Wd) (p : Addr) (ys : List V), w1.Le w2 → B X.K c w2 σ z1 → w2.H p = none → DqAll X.K w2.S ys (sortK txt ds) → k2 (.ref p) (upd w2.H p (.lst ys)) := fun w2 p ys l2 b2 hp q => new_lstF b2 q (hk.le (l1.trans l2)) hq p hp
  rcases hy with rfl | ⟨i, rfl, ho⟩
  · obtain ⟨a, xs, rfl, hq1, hs⟩ := Dp_lstI r
    exact ⟨a, xs, ds, txt, c, w1, σ, z1, rfl, rfl, rfl, b1, .inl (Same.rd b1.same hq1), hs, kf, fin⟩
  · obtain ⟨a, ha, rfl⟩ := r
    obtain ⟨hS, vs, hH, hv⟩ := b1.ob i _ a ho ha
    exact ⟨a, vs, ds, txt, c, w1, σ, z1, rfl, rfl, rfl, b1, .inl (.inl hH), allSh_dp (allSh_map ds) hv, kf, fin⟩
end
end Dl

namespace Dl
open PySem PySem.Spec L2
open PyProof.Rows hiding St
/-! ### f'..{int}' -/
section
variable {X : Cy} {e : Expr} {z : Z} {Q : Sl → Z → Prop}
theorem we_fstrI {t : Str} {j : Nat} {p1 p2 pos : Pos} (ht : t.length ≤ 1000) (h : WE X e z fun x z1 => ∃ i : Int, x = .sh (.int i) ∧ i.natAbs.log2 < 1920 ∧ (t ++ (toString i : Str)).length ≤ sizeLine ∧ Q (.sh (.str (t ++ (toString i : Str)))) z1) :
    WE X (.JoinedStr [.Constant (.str t) j p1, .FormattedValue e (-1) none p2] pos) z Q := fun c w σ k b hk =>
  tE_of (pe_joined (.cons peB (.cons (pe_fmt peB) .nil))) ((we_str (Q := fun x z1 => x = .sh (.str t) ∧ z1 = z) ⟨rfl, rfl⟩) c w σ _ b fun v x w1 z1 b1 l1 r1 ⟨e1, e2⟩ => by
    subst e1 e2
    cases Dp_str r1
    have e0 : Str.empty ++ t = t := by
      first
        | exact Str.empty_append t
        | exact PyProof.Rows.empty_append t
        | exact empty_append t
    refine ⟨t, rfl, by rw [e0]; exact Nat.le_trans ht (by decide), h c w1 σ _ b1 fun v2 x2 w2 z2 b2 l2 r2 ⟨i, ex, hz, hl, q⟩ => ?_⟩
    subst ex
    cases Dp_int r2
    refine .inr ⟨i, rfl, hz, _, rfl, by rw [e0]; exact hl, ?_⟩
    show k (.str (Str.empty ++ t ++ _)) _
    rw [e0]
    exact hk _ _ w2 z2 b2 (l1.trans l2) (vS _) q)
end
/-! ### l.count(x) -/
def rCntD (K : PySem.W.Frag) : V → List V → Hp → VK → Prop := fun x xs H Q => ∃ v d es, xs = [v] ∧ L2.Dp K H x (.list es) ∧ L2.Dp K H v d ∧ SeqAt.shaped d = true ∧ PyData.canLayAll0 es = true ∧ Q (.int (es.countP fun e => PyData.eqv e d : Nat)) H
section
variable {X : Cy} {o e : Expr} {apos cpos : Pos} {z : Z} {Q : Sl → Z → Prop}
theorem readsAll_count {h : Heap} {d : PyData} : ∀ {us : List Value} {es : List PyData} {as : List Addr}, ReadsAll h us es as → us.countP (readsEq h d) = es.countP fun e => PyData.eqv e d
  | _, _, _, .nil => rfl
  | _, _, _, .cons r t => by rw [List.countP_cons, List.countP_cons, readsEq_of r, readsAll_count t]
theorem mt_countD (hu : X.A.units + 65 < cLine) : MtR X "list.count" (rCntD X.K) := by
  intro pins s σ H x xs v us Q I rx rxs h
  obtain ⟨y, d, es, rfl, he, hd, sd, se, q⟩ := h
  obtain ⟨u, rfl, ru⟩ := rxs.one
  obtain ⟨as, r1⟩ := Dp.reads I d y u hd ru
  obtain ⟨bs, r2⟩ := Dp.reads I _ x v he rx
  cases r2 with
  | @list l ob vs n xs as₁ h1 h2 h3 h4 =>
    obtain ⟨cls, dd, data, sl⟩ := ob
    simp only at h2 h3
    subst h2 h3
    refine call_meets PySem.F.slot_list_count ⟨_, h1, rfl⟩ PySem.F.entry_list_count (PySem.F.args_list_count_2 _ _)
      (SeqAt.list_countAt l _ n dd sl u (readsEq s.heap d)) ⟨h1, fun w hw => in_at hu r1 h4 sd se w (by simpa using hw), ?_⟩
    refine ⟨.int (es.countP fun e => PyData.eqv e d : Nat), H, I.tok _, ⟨s.toks, ?_⟩, q⟩
    show Value.int _ s.toks = Value.int _ s.toks
    congr 1
    have := readsAll_count (d := d) h4
    rw [← this]
theorem we_countF (hu : X.A.units + 65 < cLine) (h : WE X o z fun x z1 => ∃ es : List PyData, x = .sh (.list es) ∧ SeqAt.shaped (.list es) = true ∧ WA X [e] z1 fun ys z2 => ∃ d, ys = [.sh d] ∧ SeqAt.shaped d = true ∧ Q (.sh (.int (es.countP fun e => PyData.eqv e d : Nat))) z2)
    (hbase : attributeBase o "count" X.env (eval o X.env) = eval o X.env := by rfl)
    (hfew : ((backTo cpos (starEach [e] X.env)).all (fun x => !x.1) && (backToKw cpos (keywordEach [] X.env)).all (fun x => x.1.isSome)
      && decide ([e].length + ([] : List Keyword).length + (if ([] : List Keyword).isEmpty then 0 else 1) < 30)) = true := by rfl)
    (hline : (apos.endLine == cpos.line) = true := by rfl) (hs : starEach [e] X.env = (false, eval e X.env) :: starEach [] X.env := by rfl) (hplain : (backTo cpos (starEach [] X.env)).any (·.1) = false := by rfl) :
    WE X (.Call (.Attribute o "count" apos) [e] [] cpos) z Q := fun c w σ k bb hk =>
  tE_of (pe_bm F.plainAttrs_list F.slot_list_count F.type_list_count mB_op peB paB hbase hfew hline hs hplain) (h c w σ _ bb fun v x w1 z1 b1 l1 r1 ⟨es, e1, se, h1⟩ => by
    subst e1
    obtain ⟨p, xs, rfl, q1, s1⟩ := Dp_lstI r1
    refine ⟨.inl ⟨rfl, _, .inl (Same.rd b1.same q1)⟩, h1 c w1 σ _ b1 fun us ys w2 z2 b2 l2 r2 ⟨d, ey, sd, hq⟩ => ?_⟩
    subst ey
    obtain ⟨u, rfl, r3⟩ := p1 r2
    exact mB_of (mt_countD hu) ⟨u, d, es, rfl, Vl.dp b2 (r1.mono l2) se, Vl.dp b2 r3 sd, sd, canLayL se, hk _ _ _ _ b2 (l1.trans l2) (vI _) hq⟩)
end
/-! ### f(p = e): a def called by a name -/
/-- a def as callers by its argument's name know it -/
structure Dk (P : Program) (w : World) (K : PySem.W.Frag) (mg : Str → Option Value) (base : Heap) (x : Str) (k : Nat) (p : Str) (R : Rl) : Prop where
  ex : ∃ (f : Addr) (fd : FuncData), FnG P w K mg base CX0 k f fd [p] (spD K 1 R) ∧ mg x = some (.ref f) ∧ PySem.W.keepIn K (.ref f) = true ∧ ∀ (s : Shared) (u : Value), BindsTo s fd ⟨[], [(p, u)]⟩ [(p, u)]
theorem fun_kw {K : PySem.W.Frag} {x qual p : Str} {st : Stmt} {f : Addr} {fd : FuncData} (F : Fun K x qual st f fd)
    (h : ∀ (kV doc pm : Value) (an : Option Addr) (cdv ct : Value) (u : Value), bindArgs (PySem.W.fnOf x qual (defArgs st) (defBody st) (defScope st) .none kV doc pm an cdv ct) ⟨[], [(p, u)]⟩ = pure [(p, u)]) : ∀ (s : Shared) (u : Value), BindsTo s fd ⟨[], [(p, u)]⟩ [(p, u)] := by
  obtain ⟨oc, od, kV, doc, pm, an, cdv, ct, osl, rfl, lk, hcd⟩ := F.ex
  exact fun s u => .of_eq (h kV doc pm an cdv ct u)
section
variable {X : Cy} {x p : Str} {np kp pos : Pos} {e : Expr} {z : Z} {Q : Sl → Z → Prop} {k kk : Nat}
theorem pe_callKw {f : Addr} {fd : FuncData} {sp : Sp} (F : FnG X.prog X.w X.K X.mg X.base CX0 k f fd [p] sp) (rm : RoomG k X.A) (hg : Gl X x) (hm : X.mg x = some (.ref f)) (hk : PySem.W.keepIn X.K (.ref f) = true) (hb : ∀ (s : Shared) (u : Value), BindsTo s fd ⟨[], [(p, u)]⟩ [(p, u)])
    {te : TE} (he : PE X e te) (hdb : (x == ("__debug__" : Str)) = false) (hall : (backToKw pos (keywordEach [⟨some p, e, kp⟩] X.env)).all (·.1.isSome) = true) (hks : (backToKw pos (keywordEach [⟨some p, e, kp⟩] X.env)).filterMap (·.1) = [p])
    (hpl : ((backTo pos (starEach [] X.env)).any (·.1) || (backToKw pos (keywordEach [⟨some p, e, kp⟩] X.env)).any (·.1.isNone)) = false) :
    PE X (.Call (.Name x np) [] [⟨some p, e, kp⟩] pos) (fun σ H Q => te σ H fun v H1 => sp [v] H1 Q E0) := by
  refine ⟨fun pins s σ H Q I h => ?_⟩
  refine wpAny_Call_Name_kw (ld_glob I hg hm ?_ hdb)
  refine PySem.W.callWith_KW0 (h₀ := X.base) I.ok.mod.kin hk hall (thn ((pk_cons (nm := some p) (kpos := kp) he pk_nil).run pos pins s σ H (fun vs H1 => sp vs H1 Q E0) I h) fun ws s2 hws => ?_) hpl
  obtain ⟨zs, H2, J, rz, q⟩ := hws
  obtain ⟨v, rfl⟩ : ∃ v, zs = [v] := by
    have := F.ln _ _ _ _ q
    match zs, this with
    | [v], _ => exact ⟨v, rfl⟩
  obtain ⟨u, rfl, ru⟩ := vals1 rz
  refine ⟨J.kIn, ?_⟩
  rw [hks]
  refine wpAny_call (codeAny_mono (F.go X.A X.stack s2 H2 ⟨[], [(p, u)]⟩ [u] [v] Q E0 rm J.env0 (hb s2 u) (.cons ru .nil) q) fun r s' hq => ?_)
  match r, hq with
  | .error e, hq => exact hq.elim
  | .ok (.ret u), hq => exact J.after hq
  | .ok .next, hq => exact hq.elim
  | .ok .brk, hq => exact hq.elim
  | .ok .cont, hq => exact hq.elim
theorem fnG_frz {P : Program} {w : World} {K : PySem.W.Frag} {mg : Str → Option Value} {base : Heap} {f : Addr} {fd : FuncData} {ps : List Str} {n : Nat} {F : List PyData → List PyData → Prop} (G : FnG P w K mg base CX0 k f fd ps (spD K n (NewR F))) : FnG P w K mg base CX0 k f fd ps (spD K n (PureR fun ds d => ∃ r, F ds r ∧ d = .list r)) := by
  refine G.imp fun vs H Q E ⟨hl, w0, xs, om, Qd, hH, b, hv, hR, hq⟩ => ?_
  obtain ⟨ds, d, e1, e2, ⟨r, hF, e3⟩, hQ⟩ := hR
  subst e1 e2 e3
  refine ⟨hl, w0, _, [], fun y om' => y = .ob 0 ∧ om' = [.lst (r.map .sh)], hH, b, hv, ⟨ds, r, rfl, rfl, hF, rfl, rfl⟩, ?_⟩
  rintro y om' v w' ⟨rfl, rfl⟩ b' ⟨p, hp, rfl⟩
  have hlen : w0.rho.length = 0 := b.len
  refine fin_ok (n := 0) (k := Q) hlen (Ext.frz 0 (r.map .sh) r [.lst (r.map .sh)] (Nat.le_refl _) rfl rfl (allSh_map r)) b' (x := .ob 0) ⟨p, hp, rfl⟩ fun w2 b2 r2 => hq _ _ _ w2 hQ b2 r2
theorem we_kwN {F : List PyData → List PyData → Prop} (G : Dk X.prog X.w X.K X.mg X.base x k p (NewR F)) (hn : Gn X x) (hr : RoomG kk X.A) (hle : k ≤ kk) (h : WE X e z fun y z1 => ∃ d r, y = .sh d ∧ F [d] r ∧ Q (.sh (.list r)) z1)
    (hall : (backToKw pos (keywordEach [⟨some p, e, kp⟩] X.env)).all (·.1.isSome) = true := by rfl) (hks : (backToKw pos (keywordEach [⟨some p, e, kp⟩] X.env)).filterMap (·.1) = [p] := by rfl)
    (hpl : ((backTo pos (starEach [] X.env)).any (·.1) || (backToKw pos (keywordEach [⟨some p, e, kp⟩] X.env)).any (·.1.isNone)) = false := by rfl) : WE X (.Call (.Name x np) [] [⟨some p, e, kp⟩] pos) z Q := by
  obtain ⟨f, fd, G, hm, hk, hb⟩ := G.ex
  refine fun c w σ kx bb hkx => tE_of (pe_callKw (fnG_frz G) (hr.mono hle) hn.g hm hk hb peB hn.d hall hks hpl) (h c w σ _ bb fun v y w1 z1 b1 l1 r1 ⟨d, r, ey, hF, hq⟩ => ?_)
  subst ey
  exact call_pure (xs := [.sh d]) (ds := [d]) (d := .list r) (Q := Q) 1 b1 (.cons r1 .nil) rfl rfl ⟨r, hF, rfl⟩ hq (hkx.le l1)
end
/-! ### sorted of an object; a comprehension of two generators whose list is an object -/
section
variable {X : Cy} {z : Z} {Q : Sl → Z → Prop}
theorem cd_sortOb (n : Nat) {i : Nat} {ds : List PyData} (hu : X.A.units + n + 2 < cLine) (ho : z.ob[i]? = some (.lst (ds.map .sh))) (hy : ∀ d ∈ ds, Ody n d) (hs : Srb ds) (h : Q (.sh (.list (sortD ds))) z) : CD X (.builtin "sorted") [.ob i] z Q := fun c w σ vs k b rr hkk => by
  obtain ⟨v, rfl, r⟩ := p1 rr
  obtain ⟨a, ha, rfl⟩ := r
  obtain ⟨hS, xs, hH, hv⟩ := b.ob i _ a ho ha
  exact cB_of (cr_sortPl (S := w.S) hu) ⟨a, xs, ds, rfl, .inl (.inl hH), allSh_dp (allSh_map ds) hv, b.same, hy, hs, fun p ys hp hq => new_lstF b hq hkk h p hp⟩
end
section
variable {X : Cy} {tg iter elt tg1 iter1 : Expr} {ifs1 : List Expr} {scope : Scope} {z : Z} {pos : Pos} {own : List (Str × Nat)} {vs1 : List Nat} {g g1 : TG} {Q : Sl → Z → Prop}
theorem we_lc2O (hN : X.N.Nodup) (ok : BlkOk X.N X.env.scope scope own) (hv : ∀ i ∈ vs1, i ∈ own.map (·.2)) (hg : ∀ s H C cl fp, PG (Blk X scope s H C cl fp) tg g) (hg1 : ∀ s H C cl fp, PG (Blk X scope s H C cl fp) tg1 g1) (hc : X.calm = true)
    (h : WI X tg iter z (Lc2D X elt tg1 iter1 ifs1 scope (own.map (·.2)) vs1 g g1 fun ds z1 => Q (.ob z1.ob.length) ⟨z1.sl, z1.ob ++ [.lst (ds.map .sh)]⟩))
    (hs : ∀ x, foldedSetIterable iter X.env x = pure x) (hs1 : ∀ (env : Env) x, foldedSetIterable iter1 env x = pure x) : WE X (.ListComp elt [⟨tg, iter, [], 0⟩, ⟨tg1, iter1, ifs1, 0⟩] scope pos) z Q := fun c w σ k bb hk => by
  have pe : ∀ s H C cl fp, PE (Blk X scope s H C cl fp) elt (fun σ H Q => ∀ s H0 C cl fp, tE (Blk X scope s H0 C cl fp) elt σ H Q) := fun s H C cl fp => ⟨fun pins s1 σ H1 Q I h => h s H C cl fp pins s1 I⟩
  have pi : ∀ s H C cl fp, PI (Blk X scope s H C cl fp) tg1 iter1 (fun σ H R => ∀ s H0 C cl fp, tI (Blk X scope s H0 C cl fp) tg1 iter1 σ H R) := fun s H C cl fp => ⟨fun pins s1 σ H1 R I h => h s H C cl fp pins s1 I⟩
  have pt : ∀ s H C cl fp, PTs (Blk X scope s H C cl fp) ifs1 (fun σ H Q => ∀ s H0 C cl fp, tTs (Blk X scope s H0 C cl fp) ifs1 σ H Q) := fun s H C cl fp => ⟨fun pins s1 σ H1 Q I h => ptsB.run pins s1 σ H1 Q I (h s H C cl fp)⟩
  refine tE_of (pe_lc2 hc hN piB ok hv hg (fun _ _ _ _ _ => pts_nil) pi hg1 pt pe hs hs1) ?_
  exact lc2_ok bb h fun D vs ds w1 z1 b1 l1 as hD hp hq => hk (.ref D) (.ob z1.ob.length) ⟨w1.rho ++ [D], w1.S, w1.H⟩ ⟨z1.sl, z1.ob ++ [.lst (ds.map .sh)]⟩ (b1.push as hD hp) (l1.trans le_push) ⟨D, by
    show (w1.rho ++ [D])[z1.ob.length]? = some D
    rw [← b1.len, List.getElem?_append_right (Nat.le_refl _), Nat.sub_self]
    rfl, rfl⟩ hq
end
end Dl

set_option maxHeartbeats 4000000
namespace Dl
open PySem PySem.Spec L2 PpSet
open PyProof.Rows hiding St
/-! ### sets of texts, turned from the library's of ints -/
def TxAre (vs : List Value) (ns : List Str) : Prop := vs.length = ns.length ∧ ∀ (i : Nat) (v : Value), vs[i]? = some v → ∃ k t, ns[i]? = some k ∧ v = Value.str k t
def keyOfS (e : Int × Value) : Str := match e.2 with | .str k _ => k | _ => ""
def GoodS (w : World) (e : Int × Value) : Prop := ∃ k tk, e.2 = Value.str k tk ∧ e.1 = hashStr w k

/-- the set of ints at a: S its members, n their number; its table rises and can be walked -/
def SetRS (w : World) (h : Heap) (a : Addr) (S : Str → Bool) (n : Nat) : Prop :=
  ∃ o es ep t, h.get? a = some o ∧ o.ExactSet ∧ o.data = .set es ep t ∧ (∀ e ∈ es.toList, GoodS w e) ∧ (es.toList.map keyOfS).Nodup ∧ (∀ k, S k = true ↔ k ∈ es.toList.map keyOfS) ∧
    es.size < scanBound ∧ t.fits es.size = true ∧ es.size = n ∧ Ris t.place.toList ∧ (w.params.followText "set-order" = true ∨ t.led = true)

section
variable {P : Program} {w : World} {h h' : Heap} {a : Addr} {S : Str → Bool} {n : Nat}

theorem SetRS.at (R : SetRS w h a S n) (k : ∀ o, h.get? a = some o → h'.get? a = some o) : SetRS w h' a S n := by
  obtain ⟨o, es, ep, t, ho, r⟩ := R
  exact ⟨o, es, ep, t, k o ho, r⟩
theorem SetRS.lt (R : SetRS w h a S n) : a < h.objs.size := by
  obtain ⟨o, es, ep, t, ho, r⟩ := R
  exact Heap.lt_size ho
theorem SetRS.congr {S' : Str → Bool} (R : SetRS w h a S n) (e : ∀ k, S' k = S k) : SetRS w h a S' n := by
  have q : S' = S := funext e
  rw [q]; exact R
theorem goodS_elems {l : List (Int × Value)} (g : ∀ e ∈ l, GoodS w e) : ElemsOf (PySem.strKind P w) l := fun e he => by
  obtain ⟨k, tk, h1, h2⟩ := g e he
  exact ⟨⟨k, by rw [h1]; exact strKind_is P w k tk, h2⟩, by rw [h1] <;> rfl⟩
theorem goodS_is {e : Int × Value} (g : GoodS w e) (k : Str) : (PySem.strKind P w).is k e.2 = true ↔ keyOfS e = k := by
  obtain ⟨k0, tk, h1, _⟩ := g
  unfold keyOfS
  rw [h1]
  show ((k0 == k) = true) ↔ k0 = k
  exact beq_iff_eq
theorem goodS_mem {l : List (Int × Value)} (g : ∀ e ∈ l, GoodS w e) (k : Str) : k ∈ l.map keyOfS ↔ ∃ e ∈ l, (PySem.strKind P w).is k e.2 = true := by
  rw [List.mem_map]
  constructor
  · rintro ⟨e, he, q⟩
    exact ⟨e, he, (goodS_is (g e he) k).2 q⟩
  · rintro ⟨e, he, q⟩
    exact ⟨e, he, (goodS_is (g e he) k).1 q⟩
theorem SetRS.setOf (R : SetRS w h a S n) : h.SetOf (PySem.strKind P w) a S n := by
  obtain ⟨o, es, ep, t, ho, hx, hd, g, nd, hm, hb, hf, hn, _⟩ := R
  exact ⟨o, es, ep, t, ho, hx, hd, goodS_elems g, fun k => (hm k).trans (goodS_mem g k), hb, hf, hn⟩
end


section
variable {P : Program} {w : World} {A : Around} {E : Value → Shared → Prop} {s : Shared} {a : Addr} {S : Str → Bool} {n : Nat}
theorem setRS_add_tail {g : Bool → Sem Unit} (hg : ∀ (b : Bool) (s₁ : Shared) (Q' : Unit → Shared → Prop), Q' () s₁ → wpAny (model P w) A (g b) Q' E s₁)
    {o : Obj} {es : Array (Int × Value)} {ep : Nat} {t : SetTable} (ho : s.heap.get? a = some o) (hex : o.ExactSet) (hd : o.data = .set es ep t)
    {es1 : Array (Int × Value)} {t2 : SetTable} {S' : Str → Bool} (g1 : ∀ e ∈ es1.toList, GoodS w e) (nd1 : (es1.toList.map keyOfS).Nodup) (m1 : ∀ k, S' k = true ↔ k ∈ es1.toList.map keyOfS)
    (hb1 : es1.size < scanBound) (hf2 : t2.fits es1.size = true) (hr : Ris t2.place.toList) (hl : w.params.followText "set-order" = true ∨ t2.led = true) {wasDummy : Bool} {R : Option Bool → Shared → Prop}
    (hR : ∀ h', Heap.SameBut a s.heap h' → SetRS w h' a S' es1.size → R (some true) { s with heap := h' }) :
    wpAny (model P w) A (do
        storeSet a es1 t2
        if (!wasDummy && t2.tooFull) = true then do
            g (relayAll t2 es1 (SetTable.grown es1.size)).2.2
            storeSet a (relayAll t2 es1 (SetTable.grown es1.size)).1 (relayAll t2 es1 (SetTable.grown es1.size)).2.1
            pure (some true)
          else pure (some true)) R E s := by
  refine wpAny_bind (wpAny_storeSet_of ho hd ?_ (fits_of_scanBound hb1))
  have ho1 := store_at (es' := es1) (t' := t2) ho hd
  have sb1 := Heap.SameBut.update s.heap a (Obj.putSet es1 t2)
  split
  · have pm := relayAll_perm t2 es1 (SetTable.grown es1.size)
    have hf3 := relayAll_fits t2 es1 (SetTable.grown es1.size)
    have hr3 := relayAll_ris t2 es1 (SetTable.grown es1.size)
    have hl3 := relayAll_led t2 es1 (SetTable.grown es1.size)
    generalize relayAll t2 es1 (SetTable.grown es1.size) = Z at pm hf3 hr3 hl3 ⊢
    obtain ⟨es2, t3, gave⟩ := Z
    dsimp only at pm hf3 hr3 hl3 ⊢
    have hsz : es2.size = es1.size := by rw [← Array.length_toList, pm.length_eq, Array.length_toList]
    have hb2 : es2.size < scanBound := by rw [hsz]; exact hb1
    refine wpAny_bind (hg _ _ _ ?_)
    refine wpAny_bind (wpAny_storeSet_of ho1 rfl ?_ (fits_of_scanBound hb2))
    have ho2 := store_at (es' := es2) (t' := t3) ho1 rfl
    refine wpAny_pure (hR _ (sb1.trans (Heap.SameBut.update _ a _)) ?_)
    exact ⟨_, es2, _, t3, ho2, hex, rfl, fun e he => g1 e (pm.mem_iff.mp he), (pm.map keyOfS).nodup_iff.mpr nd1, fun k => (m1 k).trans (pm.map keyOfS).mem_iff.symm, hb2, hf3, hsz, hr3,
      hl.imp id fun z => by rw [hl3]; exact z⟩
  · exact wpAny_pure (hR _ sb1 ⟨_, es1, _, t2, ho1, hex, rfl, g1, nd1, m1, hb1, hf2, rfl, hr, hl⟩)

theorem setRS_add_hashed {k : Str} {tk : Tok} {Q : Bool → Shared → Prop} (R : SetRS w s.heap a S n) (room : n + 1 < scanBound)
    (hQ : ∀ h', Heap.SameBut a s.heap h' → SetRS w h' a (fun j => S j || decide (j = k)) (if S k = true then n else n + 1) → Q (!S k) { s with heap := h' }) :
    wpAny (model P w) A (setAddHashed a (.str k tk) ((PySem.strKind P w).hash k)) Q E s := by
  obtain ⟨o, es, ep, t, ho, hex, hd, g, nd, hm, hb, hf, hn, hr, hl⟩ := R
  have hkey : (PySem.strKind P w).is k (.str k tk) = true := strKind_is P w k tk
  have hsc : (Value.str k tk).scannable = true := rfl
  have hel : ElemsOf (PySem.strKind P w) es.toList := goodS_elems g
  unfold setAddHashed setAddHashedIn
  refine wpAny_holding (wpAny_bind (wpAny_setState_of ho hd hf ?_))
  dsimp only
  rw [byScan_of hsc hb hel]
  simp only [↓reduceIte]
  unfold setAddByScan
  refine wpAny_bind ?_
  refine wpAny_bind (wpAny_rule ?_)
  refine wpAny_bind (wpAny_setScan_of hkey ho hd hf hel ?_)
  cases hfi : List.findIdx? (fun e => (PySem.strKind P w).is k e.2) es.toList with
  | some j =>
    dsimp only
    obtain ⟨hj, pj, _⟩ := List.findIdx?_eq_some_iff_getElem.mp hfi
    have hSk : S k = true := (hm k).2 ((goodS_mem (P := P) (w := w) g k).2 ⟨es.toList[j], List.getElem_mem hj, pj⟩)
    refine wpAny_pure (wpAny_pure ?_)
    have q := hQ s.heap (Heap.SameBut.refl a s.heap) ⟨o, es, ep, t, ho, hex, hd, g, nd, fun i => by
      rw [Bool.or_eq_true, decide_eq_true_eq, ← hm i]
      exact ⟨fun z => z.elim id (fun e => e ▸ hSk), .inl⟩, hb, hf, by rw [if_pos hSk]; exact hn, hr, hl⟩
    rw [hSk] at q
    exact q
  | none =>
    dsimp only
    have hnk : k ∉ es.toList.map keyOfS := fun z => by
      obtain ⟨e, he, q⟩ := (goodS_mem (P := P) (w := w) g k).1 z
      have c := List.findIdx?_eq_none_iff.mp hfi e he
      rw [q] at c
      cases c
    have hSk : S k = false := by
      cases q : S k with
      | false => rfl
      | true => exact absurd ((hm k).1 q) hnk
    have hgw : ∀ (b : Bool) {s₁ : Shared} {Q' : Unit → Shared → Prop}, Q' () s₁ → wpAny (model P w) A (match b with | true => rule "set.scan.the-table-gave-way" | false => pure ()) Q' E s₁ :=
      fun b s₁ Q' q => by cases b <;> first | exact wpAny_pure q | exact wpAny_rule q
    have pm := layNew_perm t es ((PySem.strKind P w).hash k) (.str k tk)
    have hf1 := layNew_fits t es ((PySem.strKind P w).hash k) (.str k tk)
    have hr1 := layNew_ris t es ((PySem.strKind P w).hash k) (.str k tk) hr
    have hl1 := layNew_led t es ((PySem.strKind P w).hash k) (.str k tk)
    generalize layNew t es ((PySem.strKind P w).hash k) (.str k tk) = Z at pm hf1 hr1 hl1 ⊢
    obtain ⟨es1, t1, wasDummy, gave⟩ := Z
    dsimp only at pm hf1 hr1 hl1 ⊢
    rw [Array.toList_push] at pm
    have pc : es1.toList.Perm (((PySem.strKind P w).hash k, Value.str k tk) :: es.toList) := pm.trans (List.perm_append_singleton _ _)
    have pk : (es1.toList.map keyOfS).Perm (k :: es.toList.map keyOfS) := pc.map keyOfS
    have g1 : ∀ e ∈ es1.toList, GoodS w e := fun e he => by
      rcases List.mem_cons.mp (pc.mem_iff.mp he) with z | z
      · rw [z]; exact ⟨k, tk, rfl, rfl⟩
      · exact g e z
    have nd1 : (es1.toList.map keyOfS).Nodup := pk.nodup_iff.mpr (List.nodup_cons.mpr ⟨hnk, nd⟩)
    have m1 : ∀ i, (S i || decide (i = k)) = true ↔ i ∈ es1.toList.map keyOfS := fun i => by
      rw [Bool.or_eq_true, decide_eq_true_eq, hm i, pk.mem_iff, List.mem_cons]
      exact Or.comm
    have hsz : es1.size = n + 1 := by rw [← Array.length_toList, pc.length_eq, List.length_cons, Array.length_toList, hn]
    have hb1 : es1.size < scanBound := by rw [hsz]; exact room
    have hled : w.params.followText "set-order" = true ∨ t1.led = true := hl.imp id fun z => by rw [hl1]; exact z
    have fin : ∀ h', Heap.SameBut a s.heap h' → SetRS w h' a (fun j => S j || decide (j = k)) es1.size → Q true { s with heap := h' } := fun h' sb r => by
      have q := hQ h' sb
      rw [hSk] at q
      rw [hsz] at r
      exact q r
    refine wpAny_bind (hgw _ ?_)
    split
    · refine wpAny_bind ?_
      rw [hashByValue_scannable 8 hsc]
      refine wpAny_pure ?_
      refine setRS_add_tail ?_ ho hex hd g1 nd1 m1 hb1 ?_ ?_ ?_ ?_
      · intro b s₁ Q' q; cases b <;> first | exact wpAny_pure q | exact wpAny_rule q
      · first | (split <;> first | exact hf1 | exact SetTable.fits_plain_off hf1) | exact hf1
      · first | (split <;> exact hr1) | exact hr1
      · first | (split <;> exact hled) | exact hled
      · intro h' sb r; dsimp only; exact wpAny_pure (fin h' sb r)
    · refine wpAny_bind (wpAny_pure ?_)
      simp only [↓reduceIte]
      refine setRS_add_tail ?_ ho hex hd g1 nd1 m1 hb1 hf1 hr1 hled ?_
      · intro b s₁ Q' q; cases b <;> first | exact wpAny_pure q | exact wpAny_rule q
      · intro h' sb r; dsimp only; exact wpAny_pure (fin h' sb r)

/-- found.add(k) -/
theorem setRS_add {k : Str} {tk : Tok} {Q : Value → Shared → Prop} (R : SetRS w s.heap a S n) (room : n + 1 < scanBound)
    (hQ : ∀ h', Heap.SameBut a s.heap h' → SetRS w h' a (fun j => S j || decide (j = k)) (if S k = true then n else n + 1) → Q .none { s with heap := h', toks := s.toks + 1 }) :
    wpAny (model P w) A (call (.builtin "set.add") [.ref a, .str k tk]) Q E s := by
  have hS : s.heap.SetOf (PySem.strKind P w) a S n := R.setOf
  refine wpAny_call_entry F.slot_set_add hS.typeIs F.entry_set_add ?_ (F.args_set_add_2 _ _)
  unfold Builtin.«set.add» Builtin.Frozenset.oneOther
  simp only [List.isEmpty_nil, bind_assoc]
  unfold Builtin.Frozenset.addrOf setAdd
  refine wpAny_bind (wpAny_pure ?_)
  try dsimp only
  refine wpAny_bind (wpAny_pure ?_)
  try dsimp only
  refine wpAny_bind ?_
  refine wpAny_holding ?_
  refine wpAny_bind ((PySem.strKind P w).pyHash (strKind_is P w k tk) ?_)
  refine setRS_add_hashed (s := { s with toks := s.toks + 1 }) R room fun h' sb r => ?_
  show wpAny _ _ (ret Value.none) _ _ _
  exact wpAny_pure ⟨_, rfl, hQ h' sb r⟩

/-! ### set() -/
theorem setRS_fresh {h : Heap} (w : World) : SetRS w (h.push { cls := .type "set", dict := none, data := .set #[] 0 (.fresh 0 0 (!w.params.followText "set-order")) }) h.objs.size (fun _ => false) 0 :=
  ⟨_, #[], 0, _, Heap.get?_push_size _ rfl, ⟨rfl, rfl, rfl⟩, rfl, (fun e he => by simp at he), (by simp), (fun k => by simp), (by decide), (by rfl), rfl, List.Pairwise.nil, by
    show _ ∨ (!w.params.followText "set-order") = true
    cases w.params.followText "set-order"
    · exact .inr rfl
    · exact .inl rfl⟩
end
theorem setRS_new_at {w : World} {h : Heap} {a : Addr} {ns : List Str} (ho : h.get? a = some { cls := .type "set", dict := none, data := .set #[] 0 (.fresh 0 0 (!w.params.followText "set-order")) }) : SetRS w h a (fun j => decide (j ∈ ns.take 0)) 0 :=
  ⟨_, #[], 0, _, ho, ⟨rfl, rfl, rfl⟩, rfl, (fun e he => by simp at he), (by simp), (fun k => by simp), (by decide), (by rfl), rfl, List.Pairwise.nil, by
    show _ ∨ (!w.params.followText "set-order") = true
    cases w.params.followText "set-order"
    · exact .inr rfl
    · exact .inl rfl⟩
section
variable {P : Program} {w : World} {A : Around} {E : Value → Shared → Prop} {s : Shared}
theorem set_update_strs {I : Addr} {fp wr : List Addr} {G : Array GenState → Array GenState → Prop} {n : Nat} {Pv : Nat → Value → Prop} {St : Nat → Shared → Prop} {R : Result → Shared → Prop}
    (W : WalksS P w A.in1 I fp wr G n Pv St) (S : Addr) (hSf : S ∉ fp) (ns : List Str) (hn : n = ns.length) (hb : ns.length + 1 < scanBound) (hval : ∀ i v, Pv i v → ∃ k t, ns[i]? = some k ∧ v = .str k t) :
    ∀ (k i : Nat) (s : Shared), n - i = k → i ≤ n → St i s → (∃ c, c ≤ i ∧ SetRS w s.heap S (fun j => decide (j ∈ ns.take i)) c) →
      (∀ s' c, Moved (S :: wr) G s s' → c ≤ n → SetRS w s'.heap S (fun j => decide (j ∈ ns)) c → R (.ok (.ret .none)) s') →
      codeAny (model P w) A (.builtin "set.update.loop" ⟨[.ref S, .ref I], []⟩) R s := by
  have hSw : S ∉ wr := fun h => hSf (W.sub _ h)
  have hsub : ∀ b ∈ wr, b ∈ S :: wr := fun b hb => List.mem_cons_of_mem _ hb
  intro k
  induction k with
  | zero =>
    intro i s hk' hi hst ⟨c, hc, hS⟩ hR
    have hin : i = n := by omega
    subst hin
    refine codeAny_builtin F.entry_set_update_loop ?_
    rw [Around.under_plainId F.plain_set_update_loop _]
    show wpAny _ A.in1 (pyNext (.ref I) >>= _) _ _ s
    refine wpAny_bind (W.done s _ _ hst fun s' hm => ?_)
    show wpAny _ A.in1 (ret Value.none) _ _ s'
    have e : ns.take i = ns := List.take_of_length_le (by omega)
    rw [e] at hS
    exact wpAny_pure (hR s' c (hm.mono hsub) hc (hS.at fun o e => hm.heap S o hSw e))
  | succ k ih =>
    intro i s hk' hi hst ⟨c, hc, hS⟩ hR
    have hlt : i < n := by omega
    refine codeAny_builtin F.entry_set_update_loop ?_
    rw [Around.under_plainId F.plain_set_update_loop _]
    show wpAny _ A.in1 (pyNext (.ref I) >>= _) _ _ s
    refine wpAny_bind (W.item i s _ _ hlt hst fun v s' hP hst' hm => ?_)
    obtain ⟨z, t, hz, rfl⟩ := hval i v hP
    have hS' : SetRS w s'.heap S (fun j => decide (j ∈ ns.take i)) c := hS.at fun o e => hm.heap S o hSw e
    show wpAny _ A.in1 (holding [Value.str z t] (setAdd S (.str z t)) >>= _) _ _ s'
    refine wpAny_bind (wpAny_holding ?_)
    unfold setAdd
    refine wpAny_holding ?_
    refine wpAny_bind ((PySem.strKind P w).pyHash (k := z) (strKind_is _ _ _ _) ?_)
    refine setRS_add_hashed (s := { s' with toks := s'.toks + 1 }) hS' (by omega) fun h' hsb hS2 => ?_
    have hS3 : SetRS w h' S (fun j => decide (j ∈ ns.take (i + 1))) (if decide (z ∈ ns.take i) = true then c else c + 1) := hS2.congr fun j => by
      rw [List.take_add_one, hz]
      simp [List.mem_append]
    have hc3 : (if decide (z ∈ ns.take i) = true then c else c + 1) ≤ i + 1 := by
      split <;> omega
    refine wpAny_pure ⟨plainId_quiet F.plain_set_update_loop _, ih (i + 1) _ (by omega) hlt (W.frame _ s' _ _ hst' (Nat.le_succ _) fun b hb o e => ?_) ⟨_, hc3, hS3⟩ fun s'' c2 hm'' hc'' hS'' => ?_⟩
    · rw [hsb.2 b (fun h : b = S => hSf (by rw [← h]; exact hb))]; exact e
    · refine hR s'' c2 (Moved.trans W.gtrans ((hm.mono hsub).then_heap (Nat.le_succ _) fun b o hb e => ?_) hm'') hc'' hS''
      rw [hsb.2 b (fun h : b = S => hb (by rw [h]; exact List.mem_cons_self))]; exact e

theorem code_set_led1 (a : Value) {Q₁ : Value → Shared → Prop}
    (h : Q₁ (.ref s.heap.objs.size) { s with heap := s.heap.push { cls := .type "set", dict := none, data := .set #[] 0 (.fresh 0 0 (!w.params.followText "set-order")) } }) :
    codeAny (model P w) A (.call (.builtin "set.__new__") ⟨[.type "set", a], []⟩) (wants Q₁ E) s := by
  refine codeAny_of_tree ?_
  show wpAny _ A.in1 (do checkBuiltinCall "set.__new__" ⟨[.type "set", a], []⟩; again (.builtin "set.__new__" ⟨[.type "set", a], []⟩)) _ _ s
  refine wpAny_bind (wpAny_of_eq (F.newCall_set_1 a) (wpAny_pure ⟨plainId_quiet F.plain_set_new _, codeAny_builtin F.entry_set_new ?_⟩))
  rw [Around.under_plainId F.plain_set_new _]
  unfold Builtin.«set.__new__» Builtin.Frozenset.newClass
  have hsub := sub_set_self
  obtain ⟨hp, g, d, tk, os⟩ := s
  dsimp only
  wp_walk
  refine wpAny_askSetting (wpAny_pure ?_)
  dsimp only
  simp only [newObj]
  refine wpAny_bind (wpAny_alloc (wpAny_pure ?_))
  exact wpAny_pure h


end
/-- the set of texts at a -/
def SetSO (w : World) (a : Addr) (S : Str → Bool) (n : Nat) : HO := .ext fun h => SetRS w h a S n
section
variable {X : Cx}
theorem setSO_new {w : World} {P : Program} {H : Hp} {h : Heap} {a : Addr} {S : Str → Bool} {n : Nat} (R : SetRS w h a S n) : ObjOk P w H h a (SetSO w a S n) := by
  have ⟨o, _, _, _, ho, _⟩ := R
  exact ⟨R, ⟨o, ho⟩, fun h1 h2 p k => SetRS.at p k⟩
theorem setSO_get {pins : List (Addr × Obj)} {σ : St} {H : Hp} {s : Shared} {a : Addr} {S : Str → Bool} {n : Nat} (I : Inv X pins σ H s) (ha : H a = some (SetSO X.w a S n)) : SetRS X.w s.heap a S n := (I.hok a _ ha).1
theorem addS_ok {pins : List (Addr × Obj)} {σ : St} {H : Hp} {s : Shared} {E : Value → Shared → Prop} {D : Addr} {S : Str → Bool} {n : Nat} {y : Str} {tk : Tok} {Q : Value → Shared → Prop} (I : Inv X pins σ H s) (hD : H D = some (SetSO X.w D S n)) (room : n + 1 < scanBound)
    (h : ∀ s', Inv X pins σ (upd H D (SetSO X.w D (fun j => S j || decide (j = y)) (if S y = true then n else n + 1))) s' → Q .none s') : wpAny (model X.prog X.w) X.A (call (.builtin "set.add") [.ref D, .str y tk]) Q E s := by
  have R := setSO_get I hD
  refine setRS_add R room fun h' sb new => ?_
  have he : ∃ u, h'.get? D = some u := by
    have ⟨o, _, _, _, ho, _⟩ := new
    exact ⟨o, ho⟩
  exact h _ (I.write (e := D) (t' := s.toks + 1) (by rw [hD]; trivial) (.inl rfl) (fun b u hb hu => (sb.2 b hb).trans hu) he (setSO_new new))
def tScS (w : World) (wi : TI) (g : TG) (tt : TT) (te : TE) (vs : List Nat) : TE := fun σ H Q => wi σ H fun J H1 => ∀ D, H1 D = none → ∃ W : Nat → Nat → Hp → Prop, (∃ m, W 0 m (upd H1 D (SetSO w D (fun _ => false) 0))) ∧ ∀ i m H, W i m H →
  (J.stop i H ∧ Q (.ref D) H) ∨ (J.go i H ∧ ∃ Nx : Hp → Prop, (∀ H', Nx H' → ∃ m', m' < m ∧ W (i + 1) m' H') ∧ ∀ x H', J.yld i H x H' → g x (wipe σ vs) H' fun σ2 H2 => wipe σ2 vs = wipe σ vs ∧ tt σ2 H2 fun b H3 =>
    if b = true then te σ2 H3 fun y H4 => ∃ (c : Str) (S : Str → Bool) (n : Nat), y = .str c ∧ H4 D = some (SetSO w D S n) ∧ n + 1 < scanBound ∧ Nx (upd H4 D (SetSO w D (fun j => S j || decide (j = c)) (if S c = true then n else n + 1))) else Nx H3)
theorem scS_core {pins : List (Addr × Obj)} {s : Shared} {σ : St} {H : Hp} {Q : VK} {elt tg iter : Expr} {ifs : List Expr} {scope : Scope} {own : List (Str × Nat)} {pos pos' : Pos} {wi : TI} {g : TG} {tt : TT} {te : TE} {use : Option (Value → Sem Unit)} {Qf : Value → Shared → Prop}
    (hc : X.calm = true) (hN : X.N.Nodup) (I : Inv X pins σ H s) (hi : PI X tg iter wi) (ok : BlkOk X.N X.env.scope scope own)
    (hg : ∀ (s : Shared) (H : Hp) (C : Addr) (cl : List (Str × Addr)) (fp : List Addr), PG (X.blk s H scope (compEnvC scope cl C X.env) fp) tg g) (ht : ∀ (s : Shared) (H : Hp) (C : Addr) (cl : List (Str × Addr)) (fp : List Addr), PTs (X.blk s H scope (compEnvC scope cl C X.env) fp) ifs tt)
    (he : ∀ (s : Shared) (H : Hp) (C : Addr) (cl : List (Str × Addr)) (fp : List Addr), PE (X.blk s H scope (compEnvC scope cl C X.env) fp) elt te) (hs : ∀ x, foldedSetIterable iter X.env x = pure x)
    (h : tScS X.w wi g tt te (own.map (·.2)) σ H Q)
    (hRR : ∀ D C s' m H', Inv X pins σ H' s' → Q (.ref D) H' → s'.heap.Ns C m → FpOk X pins H' C → compPost (model X.prog X.w) X.A X.xe use Qf (.ref D) C (.ok .next) s') :
    wpAny (model X.prog X.w) X.A (comprehension (.SetComp elt [⟨tg, iter, ifs, 0⟩] scope pos) scope X.env pos' (newSet (.type "set")) false (eval iter X.env) use) Qf X.xe s := by
  have hfree : ∀ y ∈ scope.names, y.2 = .free → ∃ c, X.env.cells.lookup y.1 = some c := fun y hy e => by
    rcases ok.free y hy e with k | k
    · exact I.ok.has _ (.inl k)
    · exact I.ok.has _ (.inr k)
  refine wpAny_comprehension_free (use := use) rfl hs (closure_ok hfree) ok.kind (fun y hy e => by rw [ok.uniq y hy, e])
    (thn (hi.run pins s σ H _ I h) fun xv s1 hx => thn hx fun itv s2 h2 => ?_)
  obtain ⟨it, fp, tn, J, H2, e, I2, T, st2, f2, q⟩ := h2
  subst e
  refine newSet_ok (newEnv_comp ?_)
  generalize hD : s2.heap.objs.size = D
  have hDn : H2 D = none := I2.hok.fresh (Nat.le_of_eq hD)
  obtain ⟨W, ⟨m0, w0⟩, turn⟩ := q D hDn
  -- the new list
  generalize hs3 : ({ s2 with heap := s2.heap.push { cls := .type "set", dict := none, data := .set #[] 0 (.fresh 0 0 (!X.w.params.followText "set-order")) } } : Shared) = s3
  have I3 : Inv X pins σ (upd H2 D (SetSO X.w D (fun _ => false) 0)) s3 := by
    rw [← hs3]
    refine I2.laid (t' := s2.toks) (fun b o e => Heap.get?_push_of_some _ e) (Nat.le_of_eq hD) ?_
    rw [← hD]
    exact setSO_new (setRS_fresh X.w)
  have h3 : s3.heap = s2.heap.push { cls := .type "set", dict := none, data := .set #[] 0 (.fresh 0 0 (!X.w.params.followText "set-order")) } := by rw [← hs3]
  have sz : ∀ b ∈ fp, b < s2.heap.objs.size := fun b hb => by
    obtain ⟨o, e, _⟩ := T.obj _ _ st2 b hb
    exact Heap.lt_size e
  have f3 : ∀ b ∈ fp, FpOk X pins (upd H2 D (SetSO X.w D (fun _ => false) 0)) b ∧ b < s3.heap.objs.size := fun b hb => by
    have hlt := sz b hb
    refine ⟨⟨?_, (f2 b hb).2⟩, by rw [h3, Heap.size_push]; exact Nat.lt_succ_of_lt hlt⟩
    rw [upd_ne (by rw [← hD]; exact Nat.ne_of_lt hlt)]
    exact (f2 b hb).1
  have st3 : tn 0 s3.heap := T.keep _ _ _ st2 fun b _ o e => by rw [h3]; exact Heap.get?_push_of_some _ e
  have I4 := block_start I3 ok hN f3
  have pg := hg s3 (upd H2 D (SetSO X.w D (fun _ => false) 0)) s3.heap.objs.size (cellsFrom (s3.heap.objs.size + 1) scope.names (cloFrom X.env.cells scope.names [])) fp
  have pt := ht s3 (upd H2 D (SetSO X.w D (fun _ => false) 0)) s3.heap.objs.size (cellsFrom (s3.heap.objs.size + 1) scope.names (cloFrom X.env.cells scope.names [])) fp
  have pe := he s3 (upd H2 D (SetSO X.w D (fun _ => false) 0)) s3.heap.objs.size (cellsFrom (s3.heap.objs.size + 1) scope.names (cloFrom X.env.cells scope.names [])) fp
  show codeAny _ _ (.compStart (.SetComp elt [⟨tg, iter, ifs, 0⟩] scope pos) 0 (.ref it) (.ref D) (compEnvC scope (cellsFrom (s3.heap.objs.size + 1) scope.names (cloFrom X.env.cells scope.names [])) s3.heap.objs.size X.env)) (compPost (model X.prog X.w) X.A X.xe use Qf (.ref D) s3.heap.objs.size) { s3 with heap := pushCells (s3.heap.push { cls := .type "dict", data := .dict #[] }) scope.names }
  have nfp : ∀ b ∈ fp, (upd H2 D (SetSO X.w D (fun _ => false) 0)) b = none := fun b hb => (f3 b hb).1.1
  generalize hce : compEnvC scope (cellsFrom (s3.heap.objs.size + 1) scope.names (cloFrom X.env.cells scope.names [])) s3.heap.objs.size X.env = ce at I4 pg pt pe ⊢
  have cL : ce.locals = s3.heap.objs.size := by subst hce; rfl
  generalize hH3 : upd H2 D (SetSO X.w D (fun _ => false) 0) = H3 at I3 I4 pg pt pe w0 nfp f3
  generalize hs4 : ({ s3 with heap := pushCells (s3.heap.push { cls := .type "dict", data := .dict #[] }) scope.names } : Shared) = s4 at I4 ⊢
  have st4 : tn 0 s4.heap := T.keep _ _ _ st3 fun b _ o e => by rw [← hs4]; exact pushCells_keeps _ _ _ _ (Heap.get?_push_of_some _ e)
  have stat : ∀ {σ' : St} {H' : Hp} {s' : Shared}, Inv (X.blk s3 H3 scope ce fp) [] σ' H' s' → (∀ b ∈ fp, H' b = none) → ∀ b ∈ fp, FpOk (X.blk s3 H3 scope ce fp) [] H' b := fun {σ' H' s'} I' hn b hb =>
    ⟨hn b hb, (I'.ok.exf b hb).1, I'.ok.exfs b hb, .inl hb, fun x c e => (I'.ok.exf b hb).2 x c e, fun p hp => absurd (show p ∈ ([] : List (Addr × Obj)) ++ [] from hp) (by simp)⟩
  have loop : codeAny (model X.prog X.w) X.A (.compLoop (.SetComp elt [⟨tg, iter, ifs, 0⟩] scope pos) 0 (.ref it) (.ref D) ce) (compPost (model X.prog X.w) X.A X.xe use Qf (.ref D) s3.heap.objs.size) s4 := by
    refine compLoopS_any (fun n s' => ∃ i H', Inv (X.blk s3 H3 scope ce fp) [] (wipe σ (own.map (·.2))) H' s' ∧ tn i s'.heap ∧ (∀ b ∈ fp, H' b = none) ∧ W i n H') ?_ m0 ⟨0, H3, I4, st4, nfp, w0⟩
    rintro n s5 ⟨i, H5, I5, st5, n5, w5⟩
    rcases turn i n H5 w5 with ⟨stop, qq⟩ | ⟨go, Nx, hNx, step⟩
    · have td := T.done (X.blk s3 H3 scope ce fp) rfl rfl rfl hc i [] s5 _ H5 (fun _ _ => False) I5 (stat I5 n5) st5 stop
      refine thnF td fun r s6 ⟨hr, I6⟩ => ?_
      subst hr
      -- back in the def's context
      have I7 : Inv X pins σ H5 s6 := I3.call' (ch := fp) I6.os I6.base I6.hok I6.bare fun b hb => ⟨(f3 b hb).1.2.2.2.1, (f3 b hb).1.2.1, (f3 b hb).1.2.2.2.2.1, (f3 b hb).1.2.2.2.2.2⟩
      have nC : H5 s3.heap.objs.size = none := by
        have z : H5 ce.locals = none := I6.free
        rw [cL] at z
        exact z
      obtain ⟨m, hn, _⟩ := I6.loc
      have hn : s6.heap.Ns ce.locals m := hn
      rw [cL] at hn
      exact hRR D s3.heap.objs.size s6 m H5 I7 qq hn (I3.fpOk (Nat.le_refl _) nC)
    · have ti := T.item (X.blk s3 H3 scope ce fp) rfl rfl rfl hc i [] s5 _ H5 (fun _ _ => False) I5 (stat I5 n5) st5 go
      refine thnF ti fun r s6 ⟨u, hr, h6⟩ => ?_
      subst hr
      refine thnF h6 fun _ s7 ⟨x, H7, I7, r7, y7, st7, n7⟩ => ?_
      have I7' := I7.pinned (stat I7 n7) (T.obj _ _ st7)
      refine thnF (pg.run _ s7 _ H7 x u _ I7' r7 (step x H7 y7)) fun _ s8 ⟨σ8, H8, I8, hw8, q8⟩ => ?_
      refine thnF (pt.run _ s8 σ8 H8 _ I8 q8) fun b s9 ⟨H9, I9, q9⟩ => ?_
      -- the turn's end
      have fin : ∀ {s' : Shared} {H' : Hp}, Inv (X.blk s3 H3 scope ce fp) ([] ++ pinsAt fp s7.heap) σ8 H' s' → Nx H' → ∃ m, m < n ∧ ∃ i H', Inv (X.blk s3 H3 scope ce fp) [] (wipe σ (own.map (·.2))) H' s' ∧ tn i s'.heap ∧ (∀ b ∈ fp, H' b = none) ∧ W i m H' := fun {s' H'} I' nx => by
        obtain ⟨m', hm, w'⟩ := hNx H' nx
        have pin' : ∀ b ∈ fp, ∀ o, s7.heap.get? b = some o → s'.heap.get? b = some o ∧ H' b = none := fun b hb o e =>
          let z := I'.pin (b, o) (List.mem_append_right _ (List.mem_append_right _ (mem_pinsAt hb e)))
          ⟨z.1, z.2.1⟩
        have hl : (wipe σ (own.map (·.2))).length = σ8.length := by rw [← hw8, wipe_length]
        refine ⟨m', hm, i + 1, H', (I'.unpinned (pins := [])).weak hl (fun j v e => ?_), T.keep _ _ _ st7 fun b hb o e => (pin' b hb o e).1, fun b hb => ?_, w'⟩
        · rw [← hw8] at e
          exact (wipe_some e).1
        · obtain ⟨o, e, _⟩ := T.obj _ _ st7 b hb
          exact (pin' b hb o e).2
      cases b with
      | false =>
        simp only [Bool.false_eq_true, if_false] at q9 ⊢
        exact fin I9 q9
      | true =>
        simp only [if_true] at q9 ⊢
        refine thnF (pe.run _ s9 σ8 H9 _ I9 q9) fun z s10 ⟨yv, H10, I10, r10, cb, S0, n0, ey, hD10, hz10, nx⟩ => ?_
        subst ey
        obtain ⟨tk, rfl⟩ := (show ∃ t, z = Value.str cb t from r10)
        exact addS_ok (X := X.blk s3 H3 scope ce fp) I10 hD10 hz10 fun s11 I11 => fin I11 nx
  exact codeAny_compStart_set loop (T.self X.A 0 _ _ _ st4 loop)
/-- as a value -/
theorem pe_scS {elt tg iter : Expr} {ifs : List Expr} {scope : Scope} {own : List (Str × Nat)} {pos : Pos} {wi : TI} {g : TG} {tt : TT} {te : TE} (hc : X.calm = true) (hN : X.N.Nodup) (hi : PI X tg iter wi) (ok : BlkOk X.N X.env.scope scope own)
    (hg : ∀ (s : Shared) (H : Hp) (C : Addr) (cl : List (Str × Addr)) (fp : List Addr), PG (X.blk s H scope (compEnvC scope cl C X.env) fp) tg g) (ht : ∀ (s : Shared) (H : Hp) (C : Addr) (cl : List (Str × Addr)) (fp : List Addr), PTs (X.blk s H scope (compEnvC scope cl C X.env) fp) ifs tt)
    (he : ∀ (s : Shared) (H : Hp) (C : Addr) (cl : List (Str × Addr)) (fp : List Addr), PE (X.blk s H scope (compEnvC scope cl C X.env) fp) elt te) (hs : ∀ x, foldedSetIterable iter X.env x = pure x := by intro _; rfl) :
    PE X (.SetComp elt [⟨tg, iter, ifs, 0⟩] scope pos) (tScS X.w wi g tt te (own.map (·.2))) := by
  refine ⟨fun pins s σ H Q I h => ?_⟩
  rw [eval_SetComp]
  refine scS_core hc hN I hi ok hg ht he hs h fun D C s' m H' I' q hn f => ⟨m, hn, fun h'' sb => ?_⟩
  obtain ⟨f0, f1, f2, f3, f4, f5⟩ := f
  exact ⟨.ref D, H', I'.turned (t' := s'.toks) (fun b o hb e => (sb.2 b hb).trans e) f0 f1 f3 f4 f5, rfl, q⟩


end
section
variable {P : Program} {w : World} {A : Around} {E : Value → Shared → Prop} {s : Shared}
set_option maxHeartbeats 3200000 in
theorem call_set_listS {l : Addr} {items : Array Value} (ns : List Str) {Q : Value → Shared → Prop} (hh : A.handled = none) (hl : s.heap.IsList l items) (hit : TxAre items.toList ns) (hb : ns.length + 1 < scanBound)
    (h : ∀ (h' : Heap) (tk c : Nat), SetRS w h' s.heap.objs.size (fun j => decide (j ∈ ns)) c → c ≤ ns.length → (∀ b o, s.heap.get? b = some o → h'.get? b = some o) → Q (.ref s.heap.objs.size) { s with heap := h', toks := tk }) :
    wpAny (model P w) A (call (.type "set") [.ref l]) Q E s := by
  have hisz : items.size = ns.length := by
    have q := hit.1
    rw [Array.length_toList] at q
    exact q
  obtain ⟨c, tl, hmro⟩ := F.called_set.mro
  have hmade := F.called_set.made
  have hsub := F.called_set.sub
  refine wpAny_call (codeAny_of_tree ?_)
  show wpAny _ _ (callAny (.type "set") _) _ _ _
  refine wpAny_pure ⟨Code.quiet_builtin _ (by decide +kernel), codeAny_builtin F.entry_type_call ?_⟩
  rw [Around.under_plain (weight_type_call_type "set" [.ref l] []) rfl]
  have h1 := F.called_set.notType
  have h2 := F.called_set.canCreate
  have hct := F.typeCall_set_1 (.ref l)
  repeat (any_goals (first | assumption | wp_step))

  refine codeAny_mono (code_set_led1 (.ref l) (E := E) (Q₁ := fun obj s₁ => obj = .ref s.heap.objs.size ∧ s₁ = { s with heap := s.heap.push { cls := .type "set", dict := none, data := .set #[] 0 (.fresh 0 0 (!w.params.followText "set-order")) } }) ⟨rfl, rfl⟩) fun r s₁ hr => ?_
  cases r with
  | error e => exact hr
  | ok fl =>
    cases fl with
    | ret obj =>
      obtain ⟨rfl, rfl⟩ := hr
      have hS : (s.heap.push { cls := .type "set", dict := none, data := .set #[] 0 (.fresh 0 0 (!w.params.followText "set-order")) }).get? s.heap.objs.size = some { cls := .type "set", dict := none, data := .set #[] 0 (.fresh 0 0 (!w.params.followText "set-order")) } := Heap.get?_push_size _ rfl
      have hT : Shared.TypeIs { s with heap := s.heap.push { cls := .type "set", dict := none, data := .set #[] 0 (.fresh 0 0 (!w.params.followText "set-order")) } } (.ref s.heap.objs.size) "set" := ⟨_, hS, rfl⟩
      have hli := F.called_set.init.lookup
      have hbi := F.called_set.init.bind (.ref s.heap.objs.size)
      repeat (any_goals (first | assumption | wp_step))

      refine codeAny_mono (codeAny_call_builtin (R := wants (fun r s₂ => r = .none ∧ ∃ h' tk c, s₂ = { s with heap := h', toks := tk } ∧ SetRS w h' s.heap.objs.size (fun j => decide (j ∈ ns)) c ∧ c ≤ ns.length ∧
          (∀ b o, s.heap.get? b = some o → h'.get? b = some o)) E) F.called_set.init.plain F.entry_set_init (check_set_init_1 hT ?_)) fun r₂ s₂ hr₂ => ?_
      · obtain ⟨ol, hol, hcl, nl, hdl⟩ := hl
        obtain ⟨ocls, odict, odata, oslots⟩ := ol
        simp only at hcl hdl
        subst hcl; subst hdl
        have hol' : (s.heap.push { cls := .type "set", dict := none, data := .set #[] 0 (.fresh 0 0 (!w.params.followText "set-order")) }).get? l = some { cls := .type "list", dict := odict, data := .seq items nl, slots := oslots } := Heap.get?_push_of_some _ hol
        have hsls := F.sub_list_set
        have hslf := F.sub_list_frozenset
        have hne : (Value.type "list" == Value.type "dict") = false := by decide
        have hl1 : (s.heap.push { cls := .type "set", dict := none, data := .set #[] 0 (.fresh 0 0 (!w.params.followText "set-order")) }).IsList l items := ⟨_, hol', rfl, nl, rfl⟩
        unfold Builtin.«set.__init__» noKeywords Builtin.Frozenset.updateFrom
        generalize hPI : pyIter = PI
        wp_walk
        subst hPI

        refine wpAny_pyIter_list hl1 ?_
        refine wpAny_bind (wpAny_runValue ?_)
        have hlS : l < s.heap.objs.size := Heap.lt_size hol
        have hh3 : A.in1.in1.in1.handled = none := by simp [hh]
        have hz1 : (s.heap.push { cls := .type "set", dict := none, data := .set #[] 0 (.fresh 0 0 (!w.params.followText "set-order")) }).objs.size = s.heap.objs.size + 1 := Heap.size_push ..
        have hneI : l ≠ (s.heap.push { cls := .type "set", dict := none, data := .set #[] 0 (.fresh 0 0 (!w.params.followText "set-order")) }).objs.size := by
          rw [Heap.size_push]; exact Nat.ne_of_lt (Nat.lt_succ_of_lt hlS)
        have hSf : s.heap.objs.size ∉ [(s.heap.push { cls := .type "set", dict := none, data := .set #[] 0 (.fresh 0 0 (!w.params.followText "set-order")) }).objs.size, l] := by
          rw [Heap.size_push]; simp only [List.mem_cons, List.mem_singleton, List.not_mem_nil, or_false, not_or]
          exact ⟨Nat.ne_of_lt (Nat.lt_succ_self _), Nat.ne_of_gt hlS⟩
        have hval : ∀ (i : Nat) (v : Value), items[i]? = some v → ∃ k t, ns[i]? = some k ∧ v = .str k t := fun i v hv => hit.2 i v (by rw [Array.getElem?_toList]; exact hv)
        refine set_update_strs ((Walks.list hh3 _ l hneI items).toS) s.heap.objs.size
          hSf ns hisz hb hval (items.size - 0) 0 _ (by omega) (Nat.zero_le _)
          ⟨⟨_, Heap.get?_push_size _ rfl, rfl, rfl⟩, (hl1.push _)⟩ ?hS0 ?hR
        case hS0 =>
          have hget : ((s.heap.push { cls := .type "set", dict := none, data := .set #[] 0 (.fresh 0 0 (!w.params.followText "set-order")) }).push { cls := .type "list_iterator", data := .fields #[.ref l, .int 0 0] }).get? s.heap.objs.size
              = some { cls := .type "set", dict := none, data := .set #[] 0 (.fresh 0 0 (!w.params.followText "set-order")) } := Heap.get?_push_of_some _ hS
          exact ⟨0, Nat.le_refl 0, setRS_new_at hget⟩
        case hR =>
          intro s' c' hm hc' hS'
          obtain ⟨h', g2, d', tk', os'⟩ := s'
          have eg : g2 = s.gens := hm.gens
          have ed : d' = s.drawn := hm.drawn
          have eo : os' = s.os := hm.os
          subst eg; subst ed; subst eo
          show wpAny _ _ _ _ _ _
          refine wpAny_pure ?_
          show wpAny _ _ (ret Value.none) _ _ _
          rw [hisz] at hc'
          refine wpAny_pure ⟨rfl, h', tk', c', rfl, hS', hc', fun b o e => ?_⟩
          have hb0 : b < s.heap.objs.size := Heap.lt_size e
          have hb1 : b ≠ s.heap.objs.size := Nat.ne_of_lt hb0
          have hb2 : b ≠ (s.heap.push { cls := .type "set", dict := none, data := .set #[] 0 (.fresh 0 0 (!w.params.followText "set-order")) }).objs.size := by
            rw [Heap.size_push]; exact Nat.ne_of_lt (Nat.lt_succ_of_lt hb0)
          exact hm.heap b o (by simp only [List.mem_cons, List.mem_singleton, List.not_mem_nil, or_false, not_or]; exact ⟨hb1, hb2⟩) (Heap.get?_push_of_some _ (Heap.get?_push_of_some _ e))

      · cases r₂ with
        | error e => exact hr₂
        | ok fl₂ =>
          cases fl₂ with
          | ret r =>
            obtain ⟨rfl, h', tk, c', rfl, hS', hc', hk'⟩ := hr₂
            repeat (any_goals (first | assumption | wp_step))
            exact h _ _ _ hS' hc' hk'
          | _ => exact hr₂.elim
    | _ => exact hr.elim


end
end Dl

namespace Dl
open PySem PySem.Spec L2
open PyProof.Rows hiding St
namespace TS
/-! ### texts sorted -/
def leS (a b : Str) : Bool := decide (a.cps.toList ≤ b.cps.toList)
def srtS (L : List Str) : List Str := L.mergeSort leS
theorem str_back (ss : List PyData) (h : ∀ d ∈ ss, ∃ s, d = .str s) : ∃ l : List Str, ss = l.map .str := by
  induction ss with
  | nil => exact ⟨[], rfl⟩
  | cons d ss ih =>
    obtain ⟨s, rfl⟩ := h d List.mem_cons_self
    obtain ⟨l, rfl⟩ := ih fun e he => h e (List.mem_cons_of_mem _ he)
    exact ⟨s :: l, rfl⟩
theorem perm_strs : ∀ {l m : List Str}, (l.map PyData.str).Perm (m.map PyData.str) → l.Perm m := fun {l m} h => by
  have h2 := h.map fun d => match d with
    | .str s => s
    | _ => ""
  rw [List.map_map, List.map_map] at h2
  have e : ((fun d => match d with
    | PyData.str s => s
    | _ => "") ∘ PyData.str) = (_root_.id : Str → Str) := rfl
  rw [e, List.map_id, List.map_id] at h2
  exact h2
theorem sortD_tx (ts : List Str) : sortD (ts.map .str) = (srtS ts).map .str := by
  obtain ⟨h1, h2⟩ := sortD_ok (ts.map .str)
  obtain ⟨l, hl⟩ := str_back (sortD (ts.map .str)) fun d hd => by
    obtain ⟨s, _, rfl⟩ := List.mem_map.mp (h2.perm.mem_iff.mp hd)
    exact ⟨s, rfl⟩
  rw [hl] at h1 h2
  rw [hl]
  congr 1
  have h3 : l.Pairwise fun a b => a.cps.toList ≤ b.cps.toList := (List.pairwise_map.mp h1).imp fun {a b} q => by
    rw [ltC_ltD (by simp [cpb])] at q
    simp only [ltD] at q
    exact List.not_lt.mp (of_decide_eq_false q)
  have h4 : (srtS ts).Pairwise fun a b => a.cps.toList ≤ b.cps.toList := (List.pairwise_mergeSort (le := leS) (fun a b c p q => decide_eq_true (List.le_trans (of_decide_eq_true p) (of_decide_eq_true q))) (fun a b => by
    rcases List.le_total a.cps.toList b.cps.toList with q | q
    · simp [leS, q]
    · simp [leS, q]) ts).imp fun {a b} q => of_decide_eq_true q
  refine List.Perm.eq_of_pairwise (fun a b _ _ p q => ?_) h3 h4 ((perm_strs h2.perm).trans (List.mergeSort_perm ts leS).symm)
  have e := List.le_antisymm p q
  exact Str.ext' (Array.toList_inj.mp e)
end TS
def RisS (ns : List Str) : Prop := ns.Pairwise fun a b => a.cps.toList < b.cps.toList
theorem risS_uniq {l m : List Str} (h1 : RisS l) (h2 : RisS m) (h : ∀ k, k ∈ l ↔ k ∈ m) : l = m := by
  have ne : ∀ {l : List Str}, RisS l → l.Nodup := fun {l} q => q.imp fun {a b} r e => by
    rw [e] at r
    exact List.lt_irrefl _ r
  refine List.Perm.eq_of_pairwise (le := fun a b : Str => a.cps.toList ≤ b.cps.toList) (fun a b _ _ p q => Str.ext' (Array.toList_inj.mp (List.le_antisymm p q))) (h1.imp fun {a b} q => List.le_of_lt q) (h2.imp fun {a b} q => List.le_of_lt q) ?_
  exact (List.perm_ext_iff_of_nodup (ne h1) (ne h2)).mpr h
theorem risS_srt {l : List Str} (h : l.Nodup) : RisS (TS.srtS l) := by
  have h4 : (TS.srtS l).Pairwise fun a b => a.cps.toList ≤ b.cps.toList := (List.pairwise_mergeSort (le := TS.leS) (fun a b c p q => decide_eq_true (List.le_trans (of_decide_eq_true p) (of_decide_eq_true q))) (fun a b => by
    rcases List.le_total a.cps.toList b.cps.toList with q | q
    · simp [TS.leS, q]
    · simp [TS.leS, q]) l).imp fun {a b} q => of_decide_eq_true q
  have h5 : (TS.srtS l).Nodup := (List.mergeSort_perm l TS.leS).nodup_iff.mpr h
  refine (h4.and h5).imp fun {a b} ⟨p, q⟩ => ?_
  refine Classical.byContradiction fun r => q ?_
  exact Str.ext' (Array.toList_inj.mp (List.le_antisymm p (List.not_lt.mp r)))
/-- sorted(a set of texts) -/
def rSortedSetS (X : Cy) : List V → Hp → VK → Prop := fun vs H Q => ∃ (a : Addr) (S : Str → Bool) (n : Nat), vs = [V.ref a] ∧ H a = some (SetSO X.w a S n) ∧ n < 4000 ∧
  ∀ (ns : List Str) (p : Addr), RisS ns → (∀ k : Str, k ∈ ns ↔ S k = true) → H p = none → Q (.ref p) (upd H p (.lst (ns.map V.str)))
def txtV : Value → Str
  | .str k _ => k
  | _ => ""
theorem cr_sortedSetS {X : Cy} (hc : X.calm = true) (hu : X.A.units + 2 < cLine) : CallR X (.builtin "sorted") (rSortedSetS X) := by
  intro pins s σ H vs us Q I rv h
  obtain ⟨a, S, n, rfl, ha, hn4, q⟩ := h
  obtain ⟨u, rfl, ru⟩ := vals1 rv
  obtain rfl : u = Value.ref a := ru
  obtain ⟨o, es, ep, t, ho, hex, hd, g, nd, hm, hb, hf, hn, hr, hl⟩ := setSO_get I ha
  refine Calls.call_function_entry PyProof.Rows.kind_sorted PyProof.Rows.plain_sorted PyProof.Rows.entry_sorted (PyProof.Rows.args_sorted1 _) ?_
  unfold Builtin.«sorted»
  refine wpAny_bind (m := checkCount "sorted" 1 1 _) (wpAny_pure ?_)
  refine wpAny_bind (collect_set (A := X.A.in1) (I.ok.hd hc) ⟨o, ho, hex.1, hd⟩ hf hb hr hl fun s1 vs k1 hz g1 o1 pm => ?_)
  have hvl : vs.length = n := by rw [pm.length_eq, List.length_map, Array.length_toList]; exact hn
  have I1 : Inv X pins σ H s1 := by
    have J : Inv X pins σ H { s with heap := s1.heap, gens := s1.gens, drawn := s1.drawn, toks := s1.toks } := I.call (ch := []) (Un.kept k1) (I.hok.kept k1) (by rw [g1]; exact I.bare) (fun _ z => nomatch z)
    have e : s1 = { s with heap := s1.heap, gens := s1.gens, drawn := s1.drawn, toks := s1.toks } := by
      cases s1
      cases s
      cases o1
      rfl
    rw [e]
    exact J
  have hst : ∀ v ∈ vs, ∃ k tk, v = Value.str k tk := fun v hv => by
    obtain ⟨e, he, q⟩ := List.mem_map.mp (pm.mem_iff.mp hv)
    obtain ⟨k, tk, h1, _⟩ := g e he
    exact ⟨k, tk, by rw [← q]; exact h1⟩
  have pk : (vs.map txtV).Perm (es.toList.map keyOfS) := by
    have q := pm.map txtV
    rw [List.map_map] at q
    exact q
  have tr : Paired (Trip X.K H H s1.heap 0) vs ((vs.map txtV).map .str) := by
    clear pk pm hvl
    induction vs with
    | nil => exact .nil
    | cons v vs ih =>
      obtain ⟨k, tk, rfl⟩ := hst v List.mem_cons_self
      exact .cons (⟨.str k, ⟨tk, rfl⟩, by simp [Od, OdF, txtV]⟩) (ih fun x hx => hst x (List.mem_cons_of_mem _ hx))
  have lacc : vs.length ≤ sizeLine := by rw [hvl]; exact Nat.le_trans (Nat.le_of_lt hn4) (by decide)
  have hsb : Srb ((vs.map txtV).map PyData.str) := by
    refine ⟨⟨2, by decide, fun d hd => ?_⟩, fun d hd e he => ?_⟩
    · obtain ⟨s, _, rfl⟩ := List.mem_map.mp hd
      rfl
    · obtain ⟨s, _, rfl⟩ := List.mem_map.mp hd
      obtain ⟨s2, _, rfl⟩ := List.mem_map.mp he
      simp [cpb]
  refine wpAny_bind (wpAny_newList ?_ lacc)
  have hg := sort_call (s := s1) (n := 0) hu I1 tr lacc hsb fun p ys hp hq => by
    rw [TS.sortD_tx] at hq
    rw [DqAll_strs hq]
    refine q _ p (risS_srt (pk.nodup_iff.mpr nd)) (fun k => ?_) hp
    rw [hm k]
    exact ((List.mergeSort_perm _ _).mem_iff).trans pk.mem_iff
  refine wpAny_bind (wpAny_holding (wpAny_mono hg (fun _ s' x => ?_) fun _ _ e => e))
  exact wpAny_pure ⟨_, rfl, x⟩
section
variable {X : Cy} {tg iter elt t : Expr} {scope : Scope} {z : Z} {pos pos' p : Pos} {own : List (Str × Nat)} {g : TG} {Q : Sl → Z → Prop}
def ScDS (X : Cy) (elt t : Expr) (scope : Scope) (vs : List Nat) (g : TG) (Q : List Str → Z → Prop) : List Sl → (Z → Prop) → Z → Prop := fun ys G z1 => ys.length < 3000 ∧ G ⟨wipeZ z1.sl vs, z1.ob⟩ ∧ ∃ fs : List (Option Str), ys.length = fs.length ∧
  (∀ (i : Nat) (y : Sl) (o : Option Str), ys[i]? = some y → fs[i]? = some o → GD X.K vs g y ⟨wipeZ z1.sl vs, z1.ob⟩ fun z2 => ∀ s H C cl fp, WT (Blk X scope s H C cl fp) t z2 fun b z3 => b = o.isSome ∧ z3.ob = z1.ob ∧ ∀ d, o = some d → ∀ s H C cl fp, WE (Blk X scope s H C cl fp) elt z3 fun x z4 => x = .sh (.str d) ∧ z4.ob = z1.ob) ∧
  ∀ ms, RisS ms → (∀ k, k ∈ ms ↔ k ∈ fs.filterMap _root_.id) → Q ms z1
theorem scS_ok {P : List Str → Z → Prop} {c : CtX X} {w : Wd} {σ : St} {k : VK} (hc : X.calm = true) (bb : B X.K c w σ z) (h : WI X tg iter z (ScDS X elt t scope (own.map (·.2)) g P))
    (hk : ∀ ms z1 w1, B X.K c w1 σ z1 → w.Le w1 → P ms z1 → ∀ q, w1.H q = none → k (.ref q) (upd w1.H q (.lst (ms.map V.str)))) :
    tScS X.w (tI X tg iter) g (fun σ H Q => ∀ s H0 C cl fp, tTs (Blk X scope s H0 C cl fp) [t] σ H Q) (fun σ H Q => ∀ s H0 C cl fp, tE (Blk X scope s H0 C cl fp) elt σ H Q) (own.map (·.2)) σ w.H (fun x H1 => rSortedSetS X [x] H1 k) := by
  refine h c w σ _ bb fun J ys G w1 z1 b1 l1 dw ⟨hyl, hG, fs, hl, hs, hP⟩ D hD => ?_
  have as1 : Aside c w1 D := b1.asideNew hD
  refine ⟨fun i m H' => m = ys.length - i ∧ i ≤ ys.length ∧ ∃ w' S n, B X.K c w' σ z1 ∧ w1.Le w' ∧ w'.H = H' ∧ Aside c w' D ∧ w'.H D = some (SetSO X.w D S n) ∧ n ≤ i ∧ ∀ k, S k = true ↔ k ∈ (fs.take i).filterMap _root_.id,
    ⟨ys.length, by simp, Nat.zero_le _, ⟨w1.rho, w1.S, upd w1.H D (SetSO X.w D (fun _ => false) 0)⟩, fun _ => false, 0, b1.aside as1, le_aside, rfl, ⟨as1.nr, as1.nS, as1.nc⟩, upd_same, Nat.zero_le _, fun k => by simp⟩, ?_⟩
  rintro i m H2 ⟨rfl, hi, w2, S, n, b2, l2, rfl, as2, hD2, hn, hS⟩
  have bw := b2.wipe (own.map (·.2))
  by_cases hlt : i < ys.length
  · refine .inr ⟨dw.goes i c w2 _ _ hlt bw l2 hG, fun H' => ∃ w' S n, B X.K c w' σ z1 ∧ w1.Le w' ∧ w'.H = H' ∧ Aside c w' D ∧ w'.H D = some (SetSO X.w D S n) ∧ n ≤ i + 1 ∧ ∀ k, S k = true ↔ k ∈ (fs.take (i + 1)).filterMap _root_.id,
      fun H' q => ⟨ys.length - (i + 1), by omega, rfl, hlt, q⟩, fun x H' y => ?_⟩
    have hy : ys[i]? = some ys[i] := List.getElem?_eq_getElem hlt
    have hif : i < fs.length := by omega
    have hf : fs[i]? = some fs[i] := List.getElem?_eq_getElem hif
    have bs := bw.self
    obtain ⟨w3, rfl, b3, l3, r3⟩ := dw.yields i w2.ct w2 _ _ x H' ys[i] hy bs l2 hG y
    refine hs i ys[i] fs[i] hy hf w2.ct w3 _ x _ b3 r3 fun w4 σ4 z4 b4 l4 hwp hw => ⟨hwp.trans (wipe_wipe σ _), fun s0 H0 C cl fp => ?_⟩
    refine hw s0 H0 C cl fp (.of _ (fun _ _ _ h => h) w2.ct) w4 σ4 _ b4 fun d w5 z5 b5 l5 ⟨hb, e5, he⟩ => ?_
    have l25 : w2.Le w5 := (l3.trans l4).trans l5
    have back : ∀ {w6 : Wd} {σ6 : St} {z6 : Z}, B X.K w2.ct w6 σ6 z6 → w2.Le w6 → z6.ob = z1.ob → B X.K c w6 σ z1 := fun {w6 σ6 z6} b6 l6 e6 => by
      have := b2.slots (b2.comp b6) l6
      rw [e6] at this
      exact this
    cases d with
    | true =>
      show ∀ s H0 C cl fp, tE (Blk X scope s H0 C cl fp) elt σ4 w5.H _
      intro s1 H1 C1 cl1 fp1
      obtain ⟨v, hv⟩ := Option.isSome_iff_exists.mp hb.symm
      refine he v hv s1 H1 C1 cl1 fp1 (.of _ (fun _ _ _ h => h) w2.ct) w5 σ4 _ b5 fun u x6 w6 z6 b6 l6 r6 ⟨e6, e7⟩ => ?_
      subst e6
      have l26 := l25.trans l6
      obtain ⟨as6, hD6⟩ := as2.on b2 hD2 b6
      refine ⟨v, S, n, Dp_str r6, hD6, by show n + 1 < 4096; omega, ⟨w6.rho, w6.S, upd w6.H D (SetSO X.w D (fun j => S j || decide (j = v)) (if S v = true then n else n + 1))⟩, _, _, (back b6 l26 e7).aside as6, (l2.trans l26).trans le_aside, rfl, ⟨as6.nr, as6.nS, as6.nc⟩, upd_same, ?_, fun k => ?_⟩
      · split <;> omega
      · rw [List.take_add_one, hf, hv, List.filterMap_append, Bool.or_eq_true, hS k, decide_eq_true_eq, List.mem_append]
        simp
    | false =>
      show ∃ w' S n, _
      obtain ⟨as5, hD5⟩ := as2.on b2 hD2 b5
      have hn0 : fs[i] = none := by
        cases e : fs[i] with
        | none => rfl
        | some d =>
          rw [e] at hb
          cases hb
      have ef : (fs.take (i + 1)).filterMap _root_.id = (fs.take i).filterMap _root_.id := by
        rw [List.take_add_one, hf, hn0, List.filterMap_append]
        simp
      exact ⟨w5, S, n, back b5 l25 e5, l2.trans l25, rfl, as5, hD5, by omega, fun k => by rw [ef]; exact hS k⟩
  · have e : i = ys.length := by omega
    subst e
    refine .inl ⟨dw.stops c w2 _ _ bw l2 hG, D, S, n, rfl, hD2, by omega, fun ms q h1 h2 hq => ?_⟩
    exact hk ms z1 w2 b2 (l1.trans l2) (hP ms h1 fun k => by rw [h2 k, hS k, hl, List.take_of_length_le (Nat.le_refl _)]) q hq
theorem dq_strs {K : PySem.W.Frag} {H : Hp} : ∀ ns : List Str, DqAll K H (ns.map V.str) (ns.map PyData.str)
  | [] => .nil
  | n :: ns => .cons (.str n) (dq_strs ns)
/-- sorted({e for x in xs if t}), texts -/
theorem we_sortScS (hu : X.A.units + 2 < cLine) (hb : Bi X "sorted" "sorted") (hN : X.N.Nodup) (ok : BlkOk X.N X.env.scope scope own) (hg : ∀ s H C cl fp, PG (Blk X scope s H C cl fp) tg g) (hc : X.calm = true)
    (h : WI X tg iter z (ScDS X elt t scope (own.map (·.2)) g fun ms z1 => Q (.ob z1.ob.length) ⟨z1.sl, z1.ob ++ [.lst ((ms.map PyData.str).map .sh)]⟩)) (hs : ∀ x, foldedSetIterable iter X.env x = pure x := by intro _; rfl)
    (he : starEach [.SetComp elt [⟨tg, iter, [t], 0⟩] scope pos'] X.env = (false, eval (.SetComp elt [⟨tg, iter, [t], 0⟩] scope pos') X.env) :: starEach [] X.env := by rfl) (hpl : (backTo pos (starEach [] X.env)).any (·.1) = false := by rfl) :
    WE X (.Call (.Name "sorted" p) [.SetComp elt [⟨tg, iter, [t], 0⟩] scope pos'] [] pos) z Q := by
  intro c w σ k bb hk
  have pt : ∀ s H C cl fp, PTs (Blk X scope s H C cl fp) [t] (fun σ H Q => ∀ s H0 C cl fp, tTs (Blk X scope s H0 C cl fp) [t] σ H Q) := fun s H C cl fp => ⟨fun pins s1 σ H1 Q I h => ptsB.run pins s1 σ H1 Q I (h s H C cl fp)⟩
  have pe : ∀ s H C cl fp, PE (Blk X scope s H C cl fp) elt (fun σ H Q => ∀ s H0 C cl fp, tE (Blk X scope s H0 C cl fp) elt σ H Q) := fun s H C cl fp => ⟨fun pins s1 σ H1 Q I h => h s H C cl fp pins s1 I⟩
  refine tE_of (pe_callB (cr_sortedSetS hc hu) hb.g.g hb.m hb.v (pa_cons (pe_scS hc hN piB ok hg pt pe hs) pa_nil he) hb.g.n hb.g.d he hpl) ?_
  exact scS_ok hc bb h fun ms z1 w1 b1 l1 hp q hq => new_lst b1 (dp_allSh (dq_strs ms)) (hk.le l1) hp q hq
theorem txAre_of : ∀ {its : List Value} {ns : List Str}, Vals (ns.map V.str) its → TxAre its ns
  | [], [], _ => ⟨rfl, fun i v h => by simp at h⟩
  | _ :: _, _ :: _, .cons ⟨t, r⟩ q => by
    obtain ⟨h1, h2⟩ := txAre_of q
    refine ⟨by simp [h1], fun i v h => ?_⟩
    cases i with
    | zero =>
      rw [List.getElem?_cons_zero] at h
      cases h
      exact ⟨_, t, rfl, r⟩
    | succ i => exact h2 i v h
theorem cr_setLS (hc : X.calm = true) : CallR X (.type "set") (fun xs H Q => ∃ (a : Addr) (ns : List Str), xs = [.ref a] ∧ SqL X.K H a (ns.map V.str) ∧ ns.length < 4000 ∧ ∀ p n, H p = none → n ≤ ns.length → Q (.ref p) (upd H p (SetSO X.w p (fun j => decide (j ∈ ns)) n))) := by
  intro pins s σ H xs us Q I r h
  obtain ⟨a, ns, rfl, hs, hl, q⟩ := h
  obtain ⟨u, rfl, ru⟩ := vals1 r
  cases ru
  obtain ⟨its, rv, hp, _⟩ := I.list hs
  refine call_set_listS ns (I.ok.hd hc) hp.isList (by rw [List.toList_toArray]; exact txAre_of rv) (by show ns.length + 1 < 4096; omega) fun h' tk c R hc' keep => ?_
  refine ⟨.ref _, upd H s.heap.objs.size (SetSO X.w s.heap.objs.size (fun j => decide (j ∈ ns)) c), I.laid (t' := tk) (fun b u e => keep b u e) (Nat.le_refl _) (setSO_new R), rfl, q _ _ (I.hok.fresh (Nat.le_refl _)) hc'⟩
theorem we_sortSetS {e : Expr} {p2 pos2 : Pos} (hu : X.A.units + 2 < cLine) (hb : Bi X "sorted" "sorted") (ht : Bt X "set" "set") (hc : X.calm = true) (h : WE X e z fun x z1 => ∃ ns : List Str, x = .sh (.list (ns.map .str)) ∧ ns.length < 4000 ∧ ∀ ms, RisS ms → (∀ k, k ∈ ms ↔ k ∈ ns) → Q (.sh (.list (ms.map .str))) z1)
    (he : starEach [.Call (.Name "set" p2) [e] [] pos2] X.env = (false, eval (.Call (.Name "set" p2) [e] [] pos2) X.env) :: starEach [] X.env := by rfl) (he2 : starEach [e] X.env = (false, eval e X.env) :: starEach [] X.env := by rfl) (hpl : (backTo pos (starEach [] X.env)).any (·.1) = false := by rfl) (hpl2 : (backTo pos2 (starEach [] X.env)).any (·.1) = false := by rfl) :
    WE X (.Call (.Name "sorted" p) [.Call (.Name "set" p2) [e] [] pos2] [] pos) z Q := fun c w σ k bb hk =>
  tE_of (pe_callB (cr_sortedSetS hc hu) hb.g.g hb.m hb.v (pa_cons (pe_callTy (cr_setLS hc) ht.g.g ht.m ht.v (pa_cons peB pa_nil he2) ht.g.n ht.g.d he2 hpl2) pa_nil he) hb.g.n hb.g.d he hpl)
    (h c w σ _ bb fun v x w1 z1 b1 l1 r1 ⟨ns, e1, hl, hq⟩ => by
      subst e1
      obtain ⟨a, xs, rfl, hr, s1⟩ := Dp_lstI r1
      have ex := DqAll_strs s1
      subst ex
      refine ⟨a, ns, rfl, .inl (Same.rd b1.same hr), by omega, fun D n hD hn => ?_⟩
      have as := b1.asideNew hD
      have b2 := b1.aside (o := SetSO X.w D (fun j => decide (j ∈ ns)) n) as
      refine ⟨D, _, n, rfl, upd_same, by omega, fun ms q h1 h2 hq2 => ?_⟩
      exact new_lstF b2 (dq_strs ms) (hk.le (l1.trans le_aside)) (hq ms h1 fun k => by rw [h2 k, decide_eq_true_eq]) q hq2)
end
end Dl

namespace Dl
open PySem PySem.Spec L2
open PyProof.Rows hiding St

/-! ### instances: fields -/
/-- a field of the class at C, the n-th of its names -/
structure Fd (K : PySem.W.Frag) (C : Addr) (ns : List Str) (n : Nat) (f : Str) : Prop where
  cl : Cls K C
  no : NoAttr K C f
  nd : ns.Nodup
  at_ : ns[n]? = some f
  few : ns.length ≤ 900
section
variable {K : PySem.W.Frag} {c : Ct} {w : Wd} {σ : St} {z : Z}
theorem zip_look {f : Str} : ∀ {ns : List Str} {vs : List V} {n : Nat} {v : V}, ns.Nodup → ns[n]? = some f → vs[n]? = some v → (ns.zip vs).lookup f = some v
  | [], _, _, _, _, h, _ => by simp at h
  | _ :: _, [], _, _, _, _, h => by simp at h
  | m :: ns, u :: vs, 0, v, _, h1, h2 => by
    simp at h1 h2
    subst h1 h2
    simp [List.lookup]
  | m :: ns, u :: vs, n + 1, v, nd, h1, h2 => by
    simp at h1 h2
    have hne : (f == m) = false := by
      have : m ∉ ns := (List.nodup_cons.mp nd).1
      rw [beq_eq_false_iff_ne]
      intro e
      subst e
      exact this (List.mem_of_getElem? h1)
    simp only [List.zip_cons_cons, List.lookup, hne]
    exact zip_look (List.nodup_cons.mp nd).2 h1 h2
theorem zip_put {f : Str} {y : V} : ∀ {ns : List Str} {vs : List V} {n : Nat}, ns.Nodup → ns[n]? = some f → n < vs.length → putF f y (ns.zip vs) = ns.zip (vs.set n y)
  | [], _, _, _, h, _ => by simp at h
  | _ :: _, [], _, _, _, h => by simp at h
  | m :: ns, u :: vs, 0, _, h1, _ => by
    simp at h1
    subst h1
    show (if m = m then (m, y) :: ns.zip vs else _) = _
    rw [if_pos rfl]
    rfl
  | m :: ns, u :: vs, n + 1, nd, h1, h2 => by
    simp at h1 h2
    have hne : m ≠ f := fun e => (List.nodup_cons.mp nd).1 (e ▸ List.mem_of_getElem? h1)
    show (if m = f then (m, y) :: ns.zip vs else (m, u) :: putF f y (ns.zip vs)) = _
    rw [if_neg hne, zip_put (List.nodup_cons.mp nd).2 h1 h2]
    rfl
theorem zip_new {f : Str} {y : V} : ∀ {ns : List Str} {vs : List V}, ns.length = vs.length → f ∉ ns → putF f y (ns.zip vs) = (ns ++ [f]).zip (vs ++ [y])
  | [], [], _, _ => rfl
  | [], _ :: _, h, _ => by cases h
  | _ :: _, [], h, _ => by cases h
  | m :: ns, u :: vs, hl, h => by
    have hne : m ≠ f := fun e => h (e ▸ List.mem_cons_self)
    show (if m = f then (m, y) :: ns.zip vs else (m, u) :: putF f y (ns.zip vs)) = _
    rw [if_neg hne, zip_new (by simpa using hl) fun q => h (List.mem_cons_of_mem _ q)]
    rfl
theorem zip_lookN {f : Str} : ∀ {ns : List Str} {vs : List V}, f ∉ ns → (ns.zip vs).lookup f = none
  | [], _, _ => rfl
  | _ :: _, [], _ => rfl
  | m :: ns, u :: vs, h => by
    have hne : (f == m) = false := by
      rw [beq_eq_false_iff_ne]
      exact fun e => h (e ▸ List.mem_cons_self)
    simp only [List.zip_cons_cons, List.lookup, hne]
    exact zip_lookN fun q => h (List.mem_cons_of_mem _ q)
theorem B.insAt (b : B K c w σ z) {i : Nat} {p C : Addr} {ns : List Str} {xs : List Sl} (hi : z.ob[i]? = some (.ins C ns xs)) (hp : w.rho[i]? = some p) :
    w.S p = none ∧ ns.length = xs.length ∧ ∃ dx vs, w.H p = some (.ins C dx (ns.zip vs)) ∧ Paired (Vl K w) vs xs := b.ob i _ p hi hp
theorem B.setI (b : B K c w σ z) {i : Nat} {p C dx : Addr} {ns ms : List Str} {xs ys : List Sl} {vs : List V} (hi : z.ob[i]? = some (.ins C ns xs)) (hp : w.rho[i]? = some p) (hl : ms.length = ys.length) (hv : Paired (Vl K w) vs ys) :
    B K c ⟨w.rho, w.S, upd w.H p (.ins C dx (ms.zip vs))⟩ σ ⟨z.sl, z.ob.set i (.ins C ms ys)⟩ := b.setG hi hp (b.insAt hi hp).1 fun _ l hS hH => ⟨hS, hl, dx, vs, hH, hv.mono fun _ _ q => q.mono l⟩
end
section
variable {X : Cy} {o e value : Expr} {f : Str} {pos pos' tpos : Pos} {z : Z} {C : Addr} {ns : List Str} {n : Nat}
/-- o.f -/
theorem we_fld {Q : Sl → Z → Prop} (F : Fd X.K C ns n f) (h : WE X o z fun x z1 => ∃ i xs y, x = .ob i ∧ z1.ob[i]? = some (.ins C ns xs) ∧ xs[n]? = some y ∧ Q y z1) (hb : attributeBase o f X.env (eval o X.env) = eval o X.env := by rfl) : WE X (.Attribute o f pos) z Q := fun c w σ k b hk =>
  tE_of (pe_fld peB hb) (h c w σ _ b fun v x w' z' b' l r ⟨i, xs, y, e, ho, hy, hq⟩ => by
    subst e
    obtain ⟨p, hp, rfl⟩ := r
    obtain ⟨_, hl, dx, vs, hH, hv⟩ := b'.insAt ho hp
    obtain ⟨u, hu, ru⟩ := paired_get hv hy
    exact ⟨p, C, dx, _, u, rfl, hH, F.cl, F.no, zip_look F.nd F.at_ hu, hk u y w' z' b' l ru hq⟩)
/-- o.f = value -/
theorem w1_fld {Q : Out → Prop} (F : Fd X.K C ns n f) (h : WE X value z fun y z1 => WE X o z1 fun x z2 => ∃ i xs, x = .ob i ∧ z2.ob[i]? = some (.ins C ns xs) ∧ Q (.nx ⟨z2.sl, z2.ob.set i (.ins C ns (xs.set n y))⟩))
    (hs : swapsWith value (some (.Attribute o f pos')) pos.line X.env = pure false := by rfl) : W1 X (.Assign [.Attribute o f pos'] value pos) z Q := fun c w σ D bb hk =>
  tS_of (ps_fld peB peB hs) (h c w σ _ bb fun v y w1 z1 b1 l1 r1 h1 => h1 c w1 σ _ b1 fun u x w2 z2 b2 l2 r2 ⟨i, xs, e, ho, hq⟩ => by
    subst e
    obtain ⟨p, hp, rfl⟩ := r2
    obtain ⟨_, hl, dx, vs, hH, hv⟩ := b2.insAt ho hp
    have hvl := paired_len hv
    have hn : n < vs.length := by
      have := (List.getElem?_eq_some_iff.mp F.at_).1
      omega
    refine ⟨p, C, dx, _, rfl, hH, F.cl, F.no, by rw [List.length_zip]; have := F.few; omega, ?_⟩
    rw [zip_put F.nd F.at_ hn]
    exact hk.nx ⟨w2.rho, w2.S, _⟩ σ _ (b2.setI ho hp (by rw [List.length_set]; exact hl) (paired_set (r1.mono l2) n hv)) ((l1.trans l2).trans le_set) hq)
/-- o.f = value, a name more -/
theorem w1_fldN {Q : Out → Prop} (cl : Cls X.K C) (no : NoAttr X.K C f) (h : WE X value z fun y z1 => WE X o z1 fun x z2 => ∃ i ns xs, x = .ob i ∧ z2.ob[i]? = some (.ins C ns xs) ∧ f ∉ ns ∧ ns.length ≤ 900 ∧ Q (.nx ⟨z2.sl, z2.ob.set i (.ins C (ns ++ [f]) (xs ++ [y]))⟩))
    (hs : swapsWith value (some (.Attribute o f pos')) pos.line X.env = pure false := by rfl) : W1 X (.Assign [.Attribute o f pos'] value pos) z Q := fun c w σ D bb hk =>
  tS_of (ps_fld peB peB hs) (h c w σ _ bb fun v y w1 z1 b1 l1 r1 h1 => h1 c w1 σ _ b1 fun u x w2 z2 b2 l2 r2 ⟨i, ns, xs, e, ho, hf, hc, hq⟩ => by
    subst e
    obtain ⟨p, hp, rfl⟩ := r2
    obtain ⟨_, hl, dx, vs, hH, hv⟩ := b2.insAt ho hp
    have hvl := paired_len hv
    refine ⟨p, C, dx, _, rfl, hH, cl, no, by rw [List.length_zip]; omega, ?_⟩
    rw [zip_new (by omega) hf]
    exact hk.nx ⟨w2.rho, w2.S, _⟩ σ _ (b2.setI ho hp (by simp; omega) (hv.snoc (r1.mono l2))) ((l1.trans l2).trans le_set) hq)
/-- o.f += value, numbers -/
theorem w1_fldAdd {Q : Out → Prop} (F : Fd X.K C ns n f) (h : WE X o z fun x z1 => ∃ i xs a, x = .ob i ∧ z1.ob[i]? = some (.ins C ns xs) ∧ xs[n]? = some (.sh (.int a)) ∧ WE X value z1 fun y z2 => ∃ b ys, y = .sh (.int b) ∧ z2.ob[i]? = some (.ins C ns ys) ∧ Q (.nx ⟨z2.sl, z2.ob.set i (.ins C ns (ys.set n (.sh (.int (a + b)))))⟩)) :
    W1 X (.AugAssign (.Attribute o f tpos) .Add value pos) z Q := fun c w σ D bb hk =>
  tS_of (ps_fldaug peB peB in_add) (h c w σ _ bb fun v x w1 z1 b1 l1 r1 ⟨i, xs, a, e, ho, ha, h1⟩ => by
    subst e
    obtain ⟨p, hp, rfl⟩ := r1
    obtain ⟨_, hl, dx, vs, hH, hv⟩ := b1.insAt ho hp
    obtain ⟨u, hu, ru⟩ := paired_get hv ha
    cases Dp_int ru
    refine ⟨p, C, dx, _, .int a, rfl, hH, F.cl, F.no, zip_look F.nd F.at_ hu, ?_⟩
    refine h1 c w1 σ _ b1 fun u y w2 z2 b2 l2 r2 ⟨b, ys, e, ho2, hq⟩ => ?_
    subst e
    cases Dp_int r2
    have hp2 := l2.rho i p hp
    obtain ⟨_, hl2, dx2, vs2, hH2, hv2⟩ := b2.insAt ho2 hp2
    have hvl := paired_len hv2
    have hn : n < vs2.length := by
      have := (List.getElem?_eq_some_iff.mp F.at_).1
      omega
    refine ⟨a, b, rfl, rfl, dx2, _, hH2, by rw [List.length_zip]; have := F.few; omega, ?_⟩
    rw [zip_put F.nd F.at_ hn]
    exact hk.nx ⟨w2.rho, w2.S, _⟩ σ _ (b2.setI ho2 hp2 (by rw [List.length_set]; exact hl2) (paired_set (vI _) n hv2)) ((l1.trans l2).trans le_set) hq)
end

/-! ### calls that are handed the whole store -/
theorem RoomG.make {k : Nat} {A : Around} (hr : RoomG (k + 1) A) (C : Addr) (us : List Value) (kw : List (Str × Value)) : RoomG k (A.under (.builtin "type.__call__" ⟨.ref C :: us, kw⟩)) := ⟨hr.r.make C us kw, by
  have := hr.g
  first | exact this | simpa [Around.under] using this⟩
section
variable {X : Cy} {CX : CXT} {k : Nat} {f C : Addr} {fd : FuncData} {ps : List Str} {sp : Sp} {dvs : List V} {ds : List Value} {E : XK} {x m : Str} {p pos apos : Pos} {e o : Expr} {es : List Expr} {ta : TE} {t : TA}
theorem run_fnG {pins : List (Addr × Obj)} {σ : St} {H : Hp} {s : Shared} {Q : VK} {us : List Value} {vs : List V} (F : FnG X.prog X.w X.K X.mg X.base CX k f fd ps sp) (hr : RoomG k X.A) (hb : Binds X.K fd ps ds) (hd : Vals dvs ds) (hx : Passes CX X E)
    (I : Inv X pins σ H s) (r : Vals vs us) (h : sp (vs ++ dvs) H Q E) : wpAny (model X.prog X.w) X.A (call (.ref f) us) (EP X pins σ Q) X.xe s := by
  have r2 : Vals (vs ++ dvs) (us ++ ds) := r.append hd
  have hl : (us ++ ds).length = ps.length := by rw [← r2.length]; exact F.ln _ _ _ _ h
  refine wpAny_call (codeAny_mono (F.go X.A X.stack s H ⟨us, []⟩ (us ++ ds) (vs ++ dvs) Q E hr I.env0 (hb s us I.kIn hl) r2 h) fun r s' hq => ?_)
  cases r with
  | error e => exact hx pins σ H s e s' I hq
  | ok fl =>
    cases fl with
    | ret u => exact I.after hq
    | next => exact False.elim hq
    | brk => exact False.elim hq
    | cont => exact False.elim hq
theorem pe_callG2 (F : FnG X.prog X.w X.K X.mg X.base CX k f fd ps sp) (hr : RoomG k X.A) (hg : Gl X x) (hm : X.mg x = some (.ref f)) (hk : PySem.W.keepIn X.K (.ref f) = true) (hb : Binds X.K fd ps ds) (hd : Vals dvs ds) (hx : Passes CX X E)
    (ha : PA X (e :: es) t) (hdb : (x == ("__debug__" : Str)) = false) (he : starEach (e :: es) X.env = (false, eval e X.env) :: starEach es X.env) (hpl : (backTo pos (starEach es X.env)).any (·.1) = false) :
    PE X (.Call (.Name x p) (e :: es) [] pos) (tCall sp dvs E t) := by
  refine ⟨fun pins s σ H Q I h => ?_⟩
  refine wpAny_Call_Name_kw (ld_glob I hg hm ?_ hdb)
  refine PySem.W.callWith_K (h₀ := X.base) I.ok.mod.kin hk (thn (ha.run pos pins s σ H _ I h) fun us s1 ⟨vs, H1, I1, r, q⟩ => ⟨I1.kIn, ?_⟩) he hpl
  exact run_fnG F hr hb hd hx I1 r q
theorem pe_methG {pl : Sem Bool} (he : PE X o ta) (c : Cls X.K C) (hm : Meth X.K C m f) (F : FnG X.prog X.w X.K X.mg X.base CX k f fd ps sp) (hr : RoomG k X.A) (hb : Binds X.K fd ps ds) (hd : Vals dvs ds) (hx : Passes CX X E) (ha : PA X (e :: es) t)
    (hst : starEach (e :: es) X.env = (false, eval e X.env) :: starEach es X.env := by rfl) (hpl : (backTo pos (starEach es X.env)).any (·.1) = false := by rfl)
    (ht : eval (.Call (.Attribute o m apos) (e :: es) [] pos) X.env = (do
      let ov ← eval o X.env
      standAt apos.atName
      let (f, first) ← holding [ov] (getMethod ov m pl)
      callWith pos f first (backTo pos (starEach (e :: es) X.env)) (backToKw pos (keywordEach [] X.env))) := by rfl) :
    PE X (.Call (.Attribute o m apos) (e :: es) [] pos) (tMeth C m sp dvs E ta t) := by
  refine ⟨fun pins s σ H Q I h => ?_⟩
  refine PySem.W.methodCall_KW (pl := pl) (thn (he.run pins s σ H _ I h) fun u s1 ⟨x, H1, I1, rx, a, dx, fs, ex, ea, l, q⟩ => ?_) ht
  subst ex
  obtain rfl : u = Value.ref a := rx
  refine getmeth_ok I1 ea c hm l ?_
  refine PySem.W.callWith_K (first := [.ref a]) (h₀ := X.base) I.ok.mod.kin hm.kp (thn (ha.run pos pins s1 σ H1 _ I1 q) fun us s2 ⟨vs, H2, I2, r, q2⟩ => ⟨I2.kIn, ?_⟩) hst hpl
  exact run_fnG (us := .ref a :: us) (vs := .ref a :: vs) F hr hb hd hx I2 (.cons rfl r) q2
theorem pe_methG0 {pl : Sem Bool} (he : PE X o ta) (c : Cls X.K C) (hm : Meth X.K C m f) (F : FnG X.prog X.w X.K X.mg X.base CX k f fd ps sp) (hr : RoomG k X.A) (hb : Binds X.K fd ps ds) (hd : Vals dvs ds) (hx : Passes CX X E)
    (ht : eval (.Call (.Attribute o m apos) [] [] pos) X.env = (do
      let ov ← eval o X.env
      standAt apos.atName
      let (f, first) ← holding [ov] (getMethod ov m pl)
      callWith pos f first (backTo pos (starEach [] X.env)) (backToKw pos (keywordEach [] X.env))) := by rfl) :
    PE X (.Call (.Attribute o m apos) [] [] pos) (tMeth C m sp dvs E ta tNil) := by
  refine ⟨fun pins s σ H Q I h => ?_⟩
  refine PySem.W.methodCall_KW (pl := pl) (thn (he.run pins s σ H _ I h) fun u s1 ⟨x, H1, I1, rx, a, dx, fs, ex, ea, l, q⟩ => ?_) ht
  subst ex
  obtain rfl : u = Value.ref a := rx
  refine getmeth_ok I1 ea c hm l ?_
  exact PySem.W.callWith_K0 (first := [.ref a]) I1.kIn hm.kp (run_fnG (us := [.ref a]) (vs := [.ref a]) F hr hb hd hx I1 (.cons rfl .nil) q)
theorem run_makeG {pins : List (Addr × Obj)} {σ : St} {H : Hp} {s : Shared} {Q : VK} {us : List Value} {vs : List V} (M : Mk X.K C f) (F : FnG X.prog X.w X.K X.mg X.base CX k f fd ps sp) (hr : RoomG (k + 1) X.A) (hb : Binds X.K fd ps ds) (hd : Vals dvs ds)
    (hx : Passes CX X E) (I : Inv X pins σ H s) (r : Vals vs us)
    (h : ∀ x dx, H x = none → H dx = none → dx ≠ x → sp (.ref x :: (vs ++ dvs)) (upd (upd H dx (.own x)) x (.ins C dx [])) (fun v H2 => v = .non ∧ Q (.ref x) H2) E) :
    wpAny (model X.prog X.w) X.A (call (.ref C) us) (EP X pins σ Q) X.xe s := by
  have hq := h (s.heap.objs.size + 1) s.heap.objs.size (I.hok.fresh (Nat.le_succ _)) (I.hok.fresh (Nat.le_refl _)) (Nat.ne_of_lt (Nat.lt_succ_self _))
  have I2 := Inv.made (C := C) I
  have r2 : Vals (V.ref (s.heap.objs.size + 1) :: (vs ++ dvs)) (Value.ref (s.heap.objs.size + 1) :: (us ++ ds)) := .cons rfl (r.append hd)
  have hl : (Value.ref (s.heap.objs.size + 1) :: us ++ ds).length = ps.length := by
    have e := r2.length
    rw [F.ln _ _ _ _ hq] at e
    exact e.symm
  refine wpAny_call (make_map (f := f) I.kIn M.makes M.init (beq_iff_eq.mp M.fn) (codeAny_mono (F.go _ X.stack _ _ ⟨Value.ref (s.heap.objs.size + 1) :: us, []⟩ (Value.ref (s.heap.objs.size + 1) :: (us ++ ds)) _ _ E (hr.make C us [])
    (I2.env0.make C us []) (hb _ (Value.ref (s.heap.objs.size + 1) :: us) I2.kIn hl) r2 hq) fun r s' hq' => ?_))
  cases r with
  | error e => exact hx pins σ _ _ e s' I2 hq'
  | ok fl =>
    cases fl with
    | ret u =>
      obtain ⟨v, H', I3, rv, ev, q3⟩ := I2.after hq'
      subst ev
      exact ⟨rv, ⟨V.ref (s.heap.objs.size + 1), H', I3, rfl, q3⟩⟩
    | next => exact False.elim hq'
    | brk => exact False.elim hq'
    | cont => exact False.elim hq'
theorem pe_makeG (M : Mk X.K C f) (F : FnG X.prog X.w X.K X.mg X.base CX k f fd ps sp) (hr : RoomG (k + 1) X.A) (hg : Gl X x) (hm : X.mg x = some (.ref C)) (hb : Binds X.K fd ps ds) (hd : Vals dvs ds) (hx : Passes CX X E)
    (ha : PA X (e :: es) t) (hdb : (x == ("__debug__" : Str)) = false) (he : starEach (e :: es) X.env = (false, eval e X.env) :: starEach es X.env) (hpl : (backTo pos (starEach es X.env)).any (·.1) = false) :
    PE X (.Call (.Name x p) (e :: es) [] pos) (tMake C sp dvs E t) := by
  refine ⟨fun pins s σ H Q I h => ?_⟩
  refine wpAny_Call_Name_kw (ld_glob I hg hm ?_ hdb)
  refine PySem.W.callWith_K (h₀ := X.base) I.ok.mod.kin M.kp (thn (ha.run pos pins s σ H _ I h) fun us s1 ⟨vs, H1, I1, r, q⟩ => ⟨I1.kIn, ?_⟩) he hpl
  exact run_makeG M F hr hb hd hx I1 r q
theorem pe_makeG0 (M : Mk X.K C f) (F : FnG X.prog X.w X.K X.mg X.base CX k f fd ps sp) (hr : RoomG (k + 1) X.A) (hg : Gl X x) (hm : X.mg x = some (.ref C)) (hb : Binds X.K fd ps ds) (hd : Vals dvs ds) (hx : Passes CX X E)
    (hdb : (x == ("__debug__" : Str)) = false) : PE X (.Call (.Name x p) [] [] pos) (tMake C sp dvs E tNil) := by
  refine ⟨fun pins s σ H Q I h => ?_⟩
  refine wpAny_Call_Name_kw (ld_glob I hg hm ?_ hdb)
  exact PySem.W.callWith_K0 I.kIn M.kp (run_makeG (us := []) M F hr hb hd hx I .nil h)
theorem pe_callG0 (F : FnG X.prog X.w X.K X.mg X.base CX k f fd ps sp) (hr : RoomG k X.A) (hg : Gl X x) (hm : X.mg x = some (.ref f)) (hk : PySem.W.keepIn X.K (.ref f) = true) (hb : Binds X.K fd ps ds) (hd : Vals dvs ds) (hx : Passes CX X E)
    (hdb : (x == ("__debug__" : Str)) = false) : PE X (.Call (.Name x p) [] [] pos) (tCall sp dvs E tNil) := by
  refine ⟨fun pins s σ H Q I h => ?_⟩
  refine wpAny_Call_Name_kw (ld_glob I hg hm ?_ hdb)
  exact PySem.W.callWith_K0 I.kIn hk (run_fnG (us := []) F hr hb hd hx I .nil h)
end
section
variable {X : Cy} {R : Rl} {z : Z} {Q : Sl → Z → Prop} {c : Ct} {w : Wd} {σ : St}
/-- the whole store handed on -/
theorem B.bare (b : B X.K c w σ z) : B X.K w.ct w [] ⟨[], z.ob⟩ := ⟨b.same, b.len, b.nd, b.tr, .nil, b.ob, fun _ _ h => h, fun _ _ h _ => h, b.self.nw, Same.refl _, b.self.nr⟩
theorem B.back (b : B X.K c w σ z) {w' : Wd} {om' : List OO} (b' : B X.K w.ct w' [] ⟨[], om'⟩) : B X.K c w' σ ⟨z.sl, om'⟩ ∧ w.Le w' := by
  have l : w.Le w' := ⟨b'.st, b'.pre⟩
  have b2 := b.comp b'
  exact ⟨⟨b2.same, b2.len, b2.nd, b2.tr, b.sl.mono fun _ _ q => q.mono l, b2.ob, b2.pre, b2.fr, b2.nw, b2.st, b2.nr⟩, l⟩
theorem call_all {kk : VK} {vs : List V} {xs : List Sl} {Q' : Sl → List OO → Prop} {E : XK} {n : Nat} (b : B X.K c w σ z) (hv : Paired (Vl X.K w) vs xs) (hn : xs.length = n) (hR : R xs z.ob Q')
    (hQ : ∀ y om, Q' y om → Q y ⟨z.sl, om⟩) (hk : Cont X.K c w σ Q kk) : spD X.K n R vs w.H kk E :=
  ⟨by rw [hv.length]; exact hn, w, xs, z.ob, Q', rfl, b.bare, hv, hR, fun y om' v w' hq b' rv => by
    obtain ⟨b2, l⟩ := b.back b'
    exact hk v y w' _ b2 l rv (hQ y om' hq)⟩
end
/-- a method as callers know it: dds the defaults -/
structure Mf (P : Program) (w : World) (K : PySem.W.Frag) (mg : Str → Option Value) (base : Heap) (C : Addr) (m : Str) (k : Nat) (ps : List Str) (dds : List PyData) (R : Rl) : Prop where
  cl : Cls K C
  ex : ∃ (f : Addr) (fd : FuncData) (dvs : List V) (ds : List Value), FnG P w K mg base CX0 k f fd ps (spD K ps.length R) ∧ Meth K C m f ∧ Binds K fd ps ds ∧ Vals dvs ds ∧ ∀ H, DqAll K H dvs dds
/-- a class as its makers know it -/
structure Kf (P : Program) (w : World) (K : PySem.W.Frag) (mg : Str → Option Value) (base : Heap) (x : Str) (C : Addr) (k : Nat) (ps : List Str) (dds : List PyData) (R : Rl) : Prop where
  ex : ∃ (f : Addr) (fd : FuncData) (dvs : List V) (ds : List Value), FnG P w K mg base CX0 k f fd ps (spD K ps.length R) ∧ Mk K C f ∧ mg x = some (.ref C) ∧ Binds K fd ps ds ∧ Vals dvs ds ∧ ∀ H, DqAll K H dvs dds
section
variable {X : Cy} {x m : Str} {p pos apos : Pos} {e o : Expr} {es : List Expr} {z : Z} {Q : Sl → Z → Prop} {k kk : Nat} {ps : List Str} {R : Rl} {C : Addr} {ns : List Str} {dds : List PyData}
theorem paired_some {K : PySem.W.Frag} {w : Wd} {vs dvs : List V} {xs : List Sl} (h : Paired (Vl K w) vs xs) (hd : DqAll K w.S dvs dds) : Paired (Vl K w) (vs ++ dvs) (xs ++ dds.map .sh) := paired_app h (dp_allSh hd)
/-- o.m(e, ..) -/
theorem we_meth {pl : Sem Bool} (M : Mf X.prog X.w X.K X.mg X.base C m k ps dds R) (hr : RoomG kk X.A) (hle : k ≤ kk)
    (h : WE X o z fun x z1 => ∃ i ns xs, x = .ob i ∧ z1.ob[i]? = some (.ins C ns xs) ∧ m ∉ ns ∧ WA X (e :: es) z1 fun ys z2 => ∃ Q', R (.ob i :: (ys ++ dds.map .sh)) z2.ob Q' ∧ ys.length + dds.length + 1 = ps.length ∧ ∀ y om, Q' y om → Q y ⟨z2.sl, om⟩)
    (hst : starEach (e :: es) X.env = (false, eval e X.env) :: starEach es X.env := by rfl) (hpl : (backTo pos (starEach es X.env)).any (·.1) = false := by rfl)
    (ht : eval (.Call (.Attribute o m apos) (e :: es) [] pos) X.env = (do
      let ov ← eval o X.env
      standAt apos.atName
      let (f, first) ← holding [ov] (getMethod ov m pl)
      callWith pos f first (backTo pos (starEach (e :: es) X.env)) (backToKw pos (keywordEach [] X.env))) := by rfl) : WE X (.Call (.Attribute o m apos) (e :: es) [] pos) z Q := by
  obtain ⟨cl, f, fd, dvs, ds, F, hm, hb, hd, hdd⟩ := M
  exact fun c w σ kq b hk => tE_of (pe_methG peB cl hm F (hr.mono hle) hb hd pass0x paB hst hpl ht) (h c w σ _ b fun v x w1 z1 b1 l1 r1 ⟨i, ns, xs, ex, ho, hn, h1⟩ => by
    subst ex
    obtain ⟨p, hp, rfl⟩ := r1
    obtain ⟨_, hl, dx, vs, hH, hv⟩ := b1.insAt ho hp
    refine ⟨p, dx, _, rfl, hH, zip_lookN hn, h1 c w1 σ _ b1 fun us ys w2 z2 b2 l2 r2 ⟨Q', hR, hlen, hq⟩ => ?_⟩
    refine call_all b2 (xs := .ob i :: (ys ++ dds.map .sh)) (.cons ⟨p, l2.rho i p hp, rfl⟩ (paired_some r2 (hdd w2.S))) ?_ hR hq (hk.le (l1.trans l2))
    simp
    omega)
/-- o.m() -/
theorem we_meth0 {pl : Sem Bool} (M : Mf X.prog X.w X.K X.mg X.base C m k ps dds R) (hr : RoomG kk X.A) (hle : k ≤ kk)
    (h : WE X o z fun x z1 => ∃ i ns xs Q', x = .ob i ∧ z1.ob[i]? = some (.ins C ns xs) ∧ m ∉ ns ∧ R (.ob i :: dds.map .sh) z1.ob Q' ∧ dds.length + 1 = ps.length ∧ ∀ y om, Q' y om → Q y ⟨z1.sl, om⟩)
    (ht : eval (.Call (.Attribute o m apos) [] [] pos) X.env = (do
      let ov ← eval o X.env
      standAt apos.atName
      let (f, first) ← holding [ov] (getMethod ov m pl)
      callWith pos f first (backTo pos (starEach [] X.env)) (backToKw pos (keywordEach [] X.env))) := by rfl) : WE X (.Call (.Attribute o m apos) [] [] pos) z Q := by
  obtain ⟨cl, f, fd, dvs, ds, F, hm, hb, hd, hdd⟩ := M
  exact fun c w σ kq b hk => tE_of (pe_methG0 peB cl hm F (hr.mono hle) hb hd pass0x ht) (h c w σ _ b fun v x w1 z1 b1 l1 r1 ⟨i, ns, xs, Q', ex, ho, hn, hR, hlen, hq⟩ => by
    subst ex
    obtain ⟨p, hp, rfl⟩ := r1
    obtain ⟨_, hl, dx, vs, hH, hv⟩ := b1.insAt ho hp
    refine ⟨p, dx, _, rfl, hH, zip_lookN hn, ?_⟩
    show spD X.K ps.length R (V.ref p :: dvs) w1.H kq E0
    refine call_all b1 (xs := .ob i :: dds.map .sh) (.cons ⟨p, hp, rfl⟩ (dp_allSh (hdd w1.S))) ?_ hR hq (hk.le l1)
    simp
    omega)
theorem B.made {c : Ct} {w : Wd} {σ : St} (b : B X.K c w σ z) {xa dx : Addr} (hx : w.H xa = none) (hd : w.H dx = none) (hne : dx ≠ xa) :
    B X.K c ⟨w.rho ++ [xa], w.S, upd (upd w.H dx (.own xa)) xa (.ins C dx [])⟩ σ ⟨z.sl, z.ob ++ [.ins C [] []]⟩ ∧ w.Le ⟨w.rho ++ [xa], w.S, upd (upd w.H dx (.own xa)) xa (.ins C dx [])⟩ := by
  have b1 : B X.K c ⟨w.rho, w.S, upd w.H dx (.own xa)⟩ σ z := b.aside (b.asideNew hd)
  have hx1 : (⟨w.rho, w.S, upd w.H dx (.own xa)⟩ : Wd).H xa = none := by
    show upd w.H dx (.own xa) xa = none
    rw [upd_ne (Ne.symm hne)]
    exact hx
  exact ⟨b1.newG (oo := .ins C [] []) hx1 fun _ _ hS hH => ⟨hS, rfl, dx, [], hH, .nil⟩, Wd.Le.trans (w1 := ⟨w.rho, w.S, upd w.H dx (.own xa)⟩) le_aside le_obj⟩
theorem call_make {kq : VK} {vs dvs : List V} {ys : List Sl} {Q' : Sl → List OO → Prop} {E : XK} {n : Nat} {c : Ct} {w : Wd} {σ : St} (b : B X.K c w σ z) (hv : Paired (Vl X.K w) vs ys) (hdd : ∀ H, DqAll X.K H dvs dds) (hR : R (.ob z.ob.length :: (ys ++ dds.map .sh)) (z.ob ++ [.ins C [] []]) Q')
    (hlen : ys.length + dds.length + 1 = n) (hq : ∀ y om, Q' y om → y = .sh .none ∧ (∃ o, om[z.ob.length]? = some o) ∧ Q (.ob z.ob.length) ⟨z.sl, om⟩) (hk : Cont X.K c w σ Q kq) :
    ∀ xa dx, w.H xa = none → w.H dx = none → dx ≠ xa → spD X.K n R (.ref xa :: (vs ++ dvs)) (upd (upd w.H dx (.own xa)) xa (.ins C dx [])) (fun v H2 => v = .non ∧ kq (.ref xa) H2) E := by
  intro xa dx hx hd hne
  obtain ⟨b2, l2⟩ := b.made (C := C) hx hd hne
  have hp : (w.rho ++ [xa])[z.ob.length]? = some xa := by
    rw [← b.len, List.getElem?_append_right (Nat.le_refl _), Nat.sub_self]
    rfl
  refine call_all (z := ⟨z.sl, z.ob ++ [.ins C [] []]⟩) (Q := fun y z1 => y = .sh .none ∧ (∃ o, z1.ob[z.ob.length]? = some o) ∧ Q (.ob z.ob.length) z1) b2 (xs := .ob z.ob.length :: (ys ++ dds.map .sh)) (.cons ⟨xa, hp, rfl⟩ (paired_some (hv.mono fun _ _ q => q.mono l2) (hdd _))) (by simp; omega) hR hq ?_
  rintro v y w3 z3 b3 l3 r3 ⟨rfl, _, hQ⟩
  refine ⟨Dp_non r3, hk (.ref xa) (.ob z.ob.length) w3 z3 b3 (l2.trans l3) ⟨xa, l3.rho _ _ hp, rfl⟩ hQ⟩
/-- C(e, ..) -/
theorem we_make (M : Kf X.prog X.w X.K X.mg X.base x C k ps dds R) (hg : Gn X x) (hr : RoomG kk X.A) (hle : k + 1 ≤ kk)
    (h : WA X (e :: es) z fun ys z2 => ∃ Q', R (.ob z2.ob.length :: (ys ++ dds.map .sh)) (z2.ob ++ [.ins C [] []]) Q' ∧ ys.length + dds.length + 1 = ps.length ∧ ∀ y om, Q' y om → y = .sh .none ∧ (∃ o, om[z2.ob.length]? = some o) ∧ Q (.ob z2.ob.length) ⟨z2.sl, om⟩)
    (he : starEach (e :: es) X.env = (false, eval e X.env) :: starEach es X.env := by rfl) (hpl : (backTo pos (starEach es X.env)).any (·.1) = false := by rfl) : WE X (.Call (.Name x p) (e :: es) [] pos) z Q := by
  obtain ⟨f, fd, dvs, ds, F, hm, hx, hb, hd, hdd⟩ := M
  exact fun c w σ kq b hk => tE_of (pe_makeG hm F (hr.mono hle) hg.g hx hb hd pass0x paB hg.d he hpl) (h c w σ _ b fun us ys w2 z2 b2 l2 r2 ⟨Q', hR, hlen, hq⟩ => call_make b2 r2 hdd hR hlen hq (hk.le l2))
/-- C() -/
theorem we_make0 (M : Kf X.prog X.w X.K X.mg X.base x C k ps dds R) (hg : Gn X x) (hr : RoomG kk X.A) (hle : k + 1 ≤ kk) {Q' : Sl → List OO → Prop}
    (hR : R (.ob z.ob.length :: dds.map .sh) (z.ob ++ [.ins C [] []]) Q') (hlen : dds.length + 1 = ps.length) (hq : ∀ y om, Q' y om → y = .sh .none ∧ (∃ o, om[z.ob.length]? = some o) ∧ Q (.ob z.ob.length) ⟨z.sl, om⟩) : WE X (.Call (.Name x p) [] [] pos) z Q := by
  obtain ⟨f, fd, dvs, ds, F, hm, hx, hb, hd, hdd⟩ := M
  exact fun c w σ kq b hk => tE_of (pe_makeG0 hm F (hr.mono hle) hg.g hx hb hd pass0x hg.d) (call_make b .nil hdd (ys := []) hR (by simpa using hlen) hq hk)
/-- f(e, ..), the whole store handed on -/
theorem we_cW (D : Cf X x k ps R) (hr : RoomG kk X.A) (hle : k ≤ kk) (h : WA X (e :: es) z fun xs z1 => ∃ Q', R xs z1.ob Q' ∧ xs.length = ps.length ∧ ∀ y om, Q' y om → Q y ⟨z1.sl, om⟩)
    (he : starEach (e :: es) X.env = (false, eval e X.env) :: starEach es X.env := by rfl) (hpl : (backTo pos (starEach es X.env)).any (·.1) = false := by rfl) : WE X (.Call (.Name x p) (e :: es) [] pos) z Q := by
  obtain ⟨f, fd, G, hm, hk, hb⟩ := D.d.ex
  exact fun ct w σ kq bb hkk => tE_of (pe_callG G (hr.mono hle) D.g.g hm hk hb pass0x paB D.g.d he hpl) (h ct w σ _ bb fun vs xs w1 z1 b1 l1 hv ⟨Q', hR, hn, hQ⟩ => by
    rw [List.append_nil]
    exact call_all b1 hv hn hR hQ (hkk.le l1))
end
end Dl
namespace Dl
open PySem PySem.Spec L2
open PyProof.Rows hiding St
section
variable {X : Cy} {P : Program} {w : World} {K : PySem.W.Frag} {mg : Str → Option Value} {base : Heap} {N : List Str} {sc : Scope} {k : Nat}
theorem Good.cls (g : Good X P w K mg base N sc k) {C : Addr} (c : Cls K C) : Cls X.K C := by
  rw [g.K]
  exact c
theorem Good.noat (g : Good X P w K mg base N sc k) {C : Addr} {f : Str} (c : NoAttr K C f) : NoAttr X.K C f := by
  rw [g.K]
  exact c
theorem Good.fd (g : Good X P w K mg base N sc k) {C : Addr} {ns : List Str} {n : Nat} {f : Str} (c : Fd K C ns n f) : Fd X.K C ns n f := by
  rw [g.K]
  exact c
theorem Good.mf (g : Good X P w K mg base N sc k) {C : Addr} {m : Str} {j : Nat} {ps : List Str} {dds : List PyData} {R : Rl} (M : Mf P w K mg base C m j ps dds R) : Mf X.prog X.w X.K X.mg X.base C m j ps dds R := by
  rw [g.prog, g.w, g.K, g.mg, g.base]
  exact M
theorem Good.kf (g : Good X P w K mg base N sc k) {C : Addr} {x : Str} {j : Nat} {ps : List Str} {dds : List PyData} {R : Rl} (M : Kf P w K mg base x C j ps dds R) : Kf X.prog X.w X.K X.mg X.base x C j ps dds R := by
  rw [g.prog, g.w, g.K, g.mg, g.base]
  exact M
end
end Dl

namespace Dl
open PySem PySem.Spec L2
open PyProof.Rows hiding St

section
variable {X : Cy} {o e : Expr} {es : List Expr} {z : Z} {pos apos : Pos} {Q : Sl → Z → Prop} {Q1 : Out → Prop}
/-- a def's end, the store kept as it is -/
theorem fin_all {n : Nat} {Qd : Sl → List OO → Prop} {x : Sl} (h : Qd x z.ob) : Fin n Qd (.rt x z) := ⟨_, _, .all x _, h⟩
theorem fin_allN {n : Nat} {Qd : Sl → List OO → Prop} (h : Qd (.sh .none) z.ob) : Fin n Qd (.nx z) := ⟨_, _, .all _ _, h⟩
/-! ### targets that are fields -/
def gFld (X : Cy) (o : Expr) (f : Str) : TG := fun v σ H Q => tE X o σ H fun x H1 => ∃ a C dx fs, x = .ref a ∧ H1 a = some (.ins C dx fs) ∧ Cls X.K C ∧ NoAttr X.K C f ∧ fs.length < 1000 ∧ Q σ (upd H1 a (.ins C dx (putF f v fs)))
theorem pg_fld {f : Str} : PG X (.Attribute o f pos) (gFld X o f) := by
  refine ⟨fun pins s σ H v u Q I r h => ?_⟩
  refine PySem.W.kas_attr (thn (h pins s I) fun ov s1 ⟨x, H1, I1, r1, a, C, dx, fs, ex, ea, c, n, l, q⟩ => ?_)
  subst ex
  obtain rfl : ov = Value.ref a := r1
  exact setattr_ok I1 ea c n l r fun s2 I2 => ⟨σ, _, I2, q⟩
/-- o1.f1, o2.f2 = a pair -/
theorem gd_fld2 {o1 o2 : Expr} {f1 f2 : Str} {C : Addr} {ns : List Str} {n1 n2 : Nat} {d1 d2 : PyData} {y : Sl} {vs : List Nat} {P : Z → Prop} (F1 : Fd X.K C ns n1 f1) (F2 : Fd X.K C ns n2 f2) (hy : y = .sh (.tuple [d1, d2]))
    (h : WE X o1 z fun x z1 => ∃ i xs, x = .ob i ∧ z1.ob[i]? = some (.ins C ns xs) ∧ WE X o2 ⟨z1.sl, z1.ob.set i (.ins C ns (xs.set n1 (.sh d1)))⟩ fun x2 z2 => ∃ j ys, x2 = .ob j ∧ z2.ob[j]? = some (.ins C ns ys) ∧ P ⟨z2.sl, z2.ob.set j (.ins C ns (ys.set n2 (.sh d2)))⟩)  (hn : ∀ C d z, ¬ X.RX C d z := by assumption) :
    GD X.K vs (gTup X.K 2 (gCons (gFld X o1 f1) (gCons (gFld X o2 f2) gNil))) y z P := by
  subst hy
  intro c w σ v k b r hk
  obtain ⟨a, us, rfl, hq, hs⟩ := Dp_tupI r
  refine ⟨a, us, rfl, Same.tup b.same hq, DpAll_len hs, ?_⟩
  cases hs with
  | @cons v1 _ _ _ r1 hs =>
    cases hs with
    | @cons v2 _ _ _ r2 hs =>
      cases hs
      refine ⟨_, _, rfl, h (.of X hn c) w σ _ b fun u x w1 z1 b1 l1 rx ⟨i, xs, e, ho, h2⟩ => ?_⟩
      subst e
      obtain ⟨p, hp, rfl⟩ := rx
      obtain ⟨_, hl, dx, vs1, hH, hv⟩ := b1.insAt ho hp
      have hvl := paired_len hv
      have hn1 := (List.getElem?_eq_some_iff.mp F1.at_).1
      have hn2 := (List.getElem?_eq_some_iff.mp F2.at_).1
      have hf := F1.few
      refine ⟨p, C, dx, _, rfl, hH, F1.cl, F1.no, by rw [List.length_zip]; omega, ?_⟩
      rw [zip_put F1.nd F1.at_ (by omega)]
      have b2 := b1.setI (dx := dx) ho hp (ms := ns) (by rw [List.length_set]; exact hl) (paired_set (vsh (Dp_mono l1.st r1)) n1 hv)
      have l2 : w.Le ⟨w1.rho, w1.S, upd w1.H p (.ins C dx (ns.zip (vs1.set n1 v1)))⟩ := l1.trans le_set
      refine ⟨_, _, rfl, h2 (.of X hn c) ⟨w1.rho, w1.S, _⟩ σ _ b2 fun u x w3 z3 b3 l3 rx ⟨j, ys, e, ho3, hP⟩ => ?_⟩
      subst e
      obtain ⟨q, hp3, rfl⟩ := rx
      obtain ⟨_, hl3, dx3, vs3, hH3, hv3⟩ := b3.insAt ho3 hp3
      have hvl3 := paired_len hv3
      refine ⟨q, C, dx3, _, rfl, hH3, F2.cl, F2.no, by rw [List.length_zip]; omega, ?_⟩
      rw [zip_put F2.nd F2.at_ (by omega)]
      have l4 := l2.trans l3
      exact ⟨rfl, hk ⟨w3.rho, w3.S, _⟩ σ _ (b3.setI (dx := dx3) ho3 hp3 (ms := ns) (by rw [List.length_set]; exact hl3) (paired_set (vsh (Dp_mono l4.st r2)) n2 hv3)) (l4.trans le_set) rfl hP⟩
/-! ### a list that is bare -/
theorem op_eqNil (hu : X.A.units < cLine) : OpR X (compareOp .Eq) (fun x y H Q => ∃ a b xs, x = .ref a ∧ y = .ref b ∧ Rd H a (.lst xs) ∧ Rd H b (.lst []) ∧ Q (.bl (decide (xs = []))) H) := by
  rintro pins s σ H x y v u Q I rx ry ⟨a, b, xs, rfl, rfl, ha, hb, q⟩
  cases rx
  cases ry
  obtain ⟨its, r1, p1, _⟩ := I.list (show SqL X.K H a xs from .inl ha)
  obtain ⟨its2, r2, p2, _⟩ := I.list (show SqL X.K H b [] from .inl hb)
  cases r2
  show wpAny (model X.prog X.w) X.A (richCompare .Eq (.ref a) (.ref b)) _ _ s
  have fin : ∀ t : Bool, t = decide (xs = []) → EP X pins σ Q (.bool t) s := fun t e => ⟨.bl t, H, I, rfl, e ▸ q⟩
  obtain ⟨⟨cls, dd, data, sl⟩, ho, hc, n, hd⟩ := id p1.isList
  obtain ⟨⟨cls2, dd2, data2, sl2⟩, ho2, hc2, n2, hd2⟩ := id p2.isList
  by_cases hx : xs = []
  · subst hx
    cases r1
    exact SeqAt.rcP_lists (e := fun _ => true) p1.isList p2.isList rfl hu (fun j h1 _ => absurd h1 (by simp)) _ _ (fin _ (by simp))
  · have hsz : (its.toArray.size != ([] : List Value).toArray.size) = true := by
      have := r1.length
      have : 0 < xs.length := List.length_pos_iff.mpr hx
      rw [bne_iff_ne]
      intro e
      have e : its.length = 0 := by simpa using e
      omega
    simp only at hc hd hc2 hd2
    subst hc hd hc2 hd2
    have ta : s.TypeIs (.ref a) "list" := ⟨_, ho, rfl⟩
    have tb : s.TypeIs (.ref b) "list" := ⟨_, ho2, rfl⟩
    exact wpAny_richCompare_same_room (op := .Eq) ta tb F.slot_list_eq (call_meets F.slot_list_eq ta F.entry_list_eq (F.args_list_eq_2 _ _) (SeqAt.list_eq_lengthsAt a b its.toArray _ n n2 dd dd2 sl sl2 hsz)
      ⟨ho, ho2, show Value.bool false ≠ Value.notImplemented ∧ EP X pins σ Q (.bool false) s from ⟨(fun x => nomatch x), fin false (by simp [hx])⟩⟩) hu
theorem rd_eqNil (hu : X.A.units < cLine) {i : Nat} {xs : List Sl} (ho : z.ob[i]? = some (.lst xs)) (h : Q (.sh (.bool (decide (xs = [])))) z) : RD X (compareOp .Eq) (.ob i) (.sh (.list [])) z Q := fun c w σ v u k b r1 r2 hk => by
  obtain ⟨p, hp, rfl⟩ := r1
  obtain ⟨_, vs, hH, hv⟩ := b.ob i _ p ho hp
  obtain ⟨a, us, rfl, hq, hs⟩ := Dp_lstI r2
  cases hs
  have e : (vs = []) = (xs = []) := by
    have := paired_len hv
    simp only [eq_iff_iff]
    constructor
    · intro h
      subst h
      exact List.length_eq_zero_iff.mp (by simpa using this.symm)
    · intro h
      subst h
      exact List.length_eq_zero_iff.mp (by simpa using this)
  refine rB_of (op_eqNil hu) ⟨p, a, vs, rfl, rfl, .inl hH, Same.rd b.same hq, ?_⟩
  have e2 : decide (vs = []) = decide (xs = []) := by simp only [e]
  rw [e2]
  exact hk _ _ w z b (.refl w) (vB _) h
theorem op_neLen (hu : X.A.units < cLine) : OpR X (compareOp .NotEq) (fun x y H Q => ∃ a b xs, x = .ref a ∧ y = .ref b ∧ Rd H a (.lst xs) ∧ Rd H b (.lst []) ∧ xs ≠ [] ∧ Q (.bl true) H) := by
  rintro pins s σ H x y v u Q I rx ry ⟨a, b, xs, rfl, rfl, ha, hb, hx, q⟩
  cases rx
  cases ry
  obtain ⟨its, r1, p1, _⟩ := I.list (show SqL X.K H a xs from .inl ha)
  obtain ⟨its2, r2, p2, _⟩ := I.list (show SqL X.K H b [] from .inl hb)
  cases r2
  show wpAny (model X.prog X.w) X.A (richCompare .NotEq (.ref a) (.ref b)) _ _ s
  obtain ⟨⟨cls, dd, data, sl⟩, ho, hc, n, hd⟩ := id p1.isList
  obtain ⟨⟨cls2, dd2, data2, sl2⟩, ho2, hc2, n2, hd2⟩ := id p2.isList
  have hsz : (its.toArray.size != ([] : List Value).toArray.size) = true := by
    have := r1.length
    have : 0 < xs.length := List.length_pos_iff.mpr hx
    rw [bne_iff_ne]
    intro e
    have e : its.length = 0 := by simpa using e
    omega
  simp only at hc hd hc2 hd2
  subst hc hd hc2 hd2
  have ta : s.TypeIs (.ref a) "list" := ⟨_, ho, rfl⟩
  have tb : s.TypeIs (.ref b) "list" := ⟨_, ho2, rfl⟩
  exact wpAny_richCompare_same_room (op := .NotEq) ta tb F.slot_list_ne (call_meets F.slot_list_ne ta F.entry_list_ne (F.args_list_ne_2 _ _) (SeqAt.list_ne_lengthsAt a b its.toArray _ n n2 dd dd2 sl sl2 hsz)
    ⟨ho, ho2, show Value.bool true ≠ Value.notImplemented ∧ EP X pins σ Q (.bool true) s from ⟨(fun x => nomatch x), ⟨.bl true, H, I, rfl, q⟩⟩⟩) hu
/-- xs != [], a list that stays -/
theorem rd_neNil (hu : X.A.units + 64 < cLine) {ds : List PyData} (h : Q (.sh (.bool (!decide (ds = [])))) z) : RD X (compareOp .NotEq) (.sh (.list ds)) (.sh (.list [])) z Q := by
  by_cases hx : ds = []
  · subst hx
    exact rd_neD hu (by decide +kernel) (by decide +kernel) h
  · rw [decide_eq_false hx] at h
    intro c w σ v u k b r1 r2 hk
    obtain ⟨a, vs, rfl, hq, hs⟩ := Dp_lstI r1
    obtain ⟨a2, us, rfl, hq2, hs2⟩ := Dp_lstI r2
    cases hs2
    refine rB_of (op_neLen (by omega)) ⟨a, a2, vs, rfl, rfl, Same.rd b.same hq, Same.rd b.same hq2, fun e => ?_, hk _ _ w z b (.refl w) (vB _) h⟩
    subst e
    cases hs
    exact hx rfl
/-! ### tuple(object), int(text) -/
theorem cd_intS {a : Str} {n : Int} (hn : PySem.intText? a = some n) (hl : a.length ≤ 640) (h : Q (.sh (.int n)) z) : CD X (.type "int") [.sh (.str a)] z Q := fun c w σ vs k b rr hk => by
  obtain ⟨v, rfl, r⟩ := p1 rr
  cases Dp_str r
  exact cB_of call_int_str ⟨a, n, rfl, hn, hl, hk _ _ w z b (.refl w) (vI _) h⟩
/-- T[k], T a module's table of numbers by texts -/
theorem we_kix {x : Str} {p : Pos} {g : Str → Option Int} (T : TabI X x g) (hg : Gn X x) (h : WE X e z fun y z1 => ∃ (k : Str) (i : Int), y = .sh (.str k) ∧ g k = some i ∧ Q (.sh (.int i)) z1) (hs : PlainIx e := by exact fun _ _ => rfl) : WE X (.Subscript (.Name x p) e pos) z Q := fun c w σ kk bb hk => by
  obtain ⟨d, es, n, D, hm, ht⟩ := T.ex
  refine tE_of (pe_ix ix_kdict (pe_glob (v := .ref d) hg.g hm rfl hg.d) peB hs) (h c w σ _ bb fun u y w1 z1 b1 l1 r1 ⟨k, i, ey, hk2, hq⟩ => ?_)
  subst ey
  cases Dp_str r1
  obtain ⟨r, hr, q⟩ := ht k
  rcases q with ⟨_, e4⟩ | ⟨j, t, e3, e4⟩
  · rw [hk2] at e4
    cases e4
  · rw [hk2] at e4
    cases e4
    subst e3
    exact ⟨d, k, .int i, rfl, rfl, ⟨es, n, _, D.at_, D.lit, hr, ⟨t, rfl⟩⟩, hk _ _ w1 z1 b1 l1 (vI i) hq⟩
theorem rd_notInSg {c : Nat} {t : Str} (h : Q (.sh (.bool (!decide (c ∈ t.cps.toList)))) z) : RD X (compareOp .NotIn) (.sh (.str ⟨#[c]⟩)) (.sh (.str t)) z Q := fun c' w σ v u k b r1 r2 hk => by
  cases Dp_str r1
  cases Dp_str r2
  exact rB_of op_notIn_sign ⟨c, t, rfl, rfl, hk _ _ w z b (.refl w) (vB _) h⟩
/-! ### texts taken apart -/
theorem we_partition (h : WE X o z fun x z1 => ∃ a, x = .sh (.str a) ∧ WE X e z1 fun y z2 => ∃ b, y = .sh (.str b) ∧ (b.length == 0) = false ∧ a.length ≤ sizeLine ∧ Q (.tp [.str (Txt.partition a b).1, .str (Txt.partition a b).2.1, .str (Txt.partition a b).2.2]) z2)
    (hs : starEach [e] X.env = [(false, eval e X.env)] := by rfl) (hbase : attributeBase o "partition" X.env (eval o X.env) = eval o X.env := by rfl) (hline : (apos.endLine == pos.line) = true := by rfl) : WE X (.Call (.Attribute o "partition" apos) [e] [] pos) z Q := fun c w σ k bb hk =>
  tE_of (pe_partition peB peB hs hbase hline) (h c w σ _ bb fun v x w1 z1 b1 l1 r1 ⟨a, ex, h1⟩ => by
    subst ex
    cases Dp_str r1
    refine ⟨⟨a, rfl⟩, h1 c w1 σ _ b1 fun u y w2 z2 b2 l2 r2 ⟨b, ey, hb, hz, hq⟩ => ?_⟩
    subst ey
    cases Dp_str r2
    refine ⟨a, b, rfl, rfl, hb, hz, fun p hp => ?_⟩
    have l : w2.Le ⟨w2.rho, upd w2.S p (.tup [.str (Txt.partition a b).1, .str (Txt.partition a b).2.1, .str (Txt.partition a b).2.2]), upd w2.H p (.tup [.str (Txt.partition a b).1, .str (Txt.partition a b).2.1, .str (Txt.partition a b).2.2])⟩ := le_new (b2.freshS hp)
    exact hk (.ref p) (.tp _) ⟨w2.rho, upd w2.S p _, upd w2.H p _⟩ z2 (b2.newS hp) ((l1.trans l2).trans l) ⟨p, _, rfl, .inl (.inl upd_same), .cons (.str _) (.cons (.str _) (.cons (.str _) .nil))⟩ hq)
theorem we_split (h : WE X o z fun x z1 => ∃ a, x = .sh (.str a) ∧ WE X e z1 fun y z2 => ∃ b, y = .sh (.str b) ∧ (b.length == 0) = false ∧ a.length + 2 ≤ sizeLine ∧ Q (.sh (.list ((Txt.split a b).map .str))) z2)
    (hs : starEach [e] X.env = [(false, eval e X.env)] := by rfl) (hbase : attributeBase o "split" X.env (eval o X.env) = eval o X.env := by rfl) (hline : (apos.endLine == pos.line) = true := by rfl) : WE X (.Call (.Attribute o "split" apos) [e] [] pos) z Q := fun c w σ k bb hk =>
  tE_of (pe_m1 F.slot_str_split F.type_str_split mt_split peB peB hs hbase hline) (h c w σ _ bb fun v x w1 z1 b1 l1 r1 ⟨a, ex, h1⟩ => by
    subst ex
    cases Dp_str r1
    refine ⟨⟨a, rfl⟩, h1 c w1 σ _ b1 fun u y w2 z2 b2 l2 r2 ⟨b, ey, hb, hz, hq⟩ => ?_⟩
    subst ey
    cases Dp_str r2
    exact ⟨a, b, rfl, rfl, hb, hz, new_lstF b2 (dq_strs _) (hk.le (l1.trans l2)) hq⟩)
theorem rd_inS {x : Str} {ys : List Str} {ds : List PyData} (e : ds = ys.map .str) (h : Q (.sh (.bool (ys.contains x))) z) : RD X (compareOp .In) (.sh (.str x)) (.sh (.tuple ds)) z Q := fun c w σ v u kk b r1 r2 hk => by
  subst e
  cases Dp_str r1
  obtain ⟨p, xs, rfl, h3, s1⟩ := Dp_tupI r2
  have e := strs_v s1
  subst e
  refine rB_of op_in_seq ⟨p, _, rfl, .inr (Same.tup b.same h3), rfl, flat_strs ys, ?_⟩
  rw [if_neg Bool.false_ne_true, inV_strs]
  exact hk _ _ w z b (.refl w) (vB _) h
/-! ### try that nothing leaves -/
def TryQ (X : Cy) (orelse : List Stmt) (Q : Out → Prop) : Out → Prop
  | .nx z => WS X orelse z Q
  | o => Q o
theorem try_nx0 (h : Q1 (.nx z)) : TryQ X [] Q1 (.nx z) := ws_nil h
theorem w1_try {body : List Stmt} {h₀ : ExceptHandler} {hs : List ExceptHandler} {orelse : List Stmt} (hn : ∀ e s, ¬ X.xe e s) (h : WS X body z (TryQ X orelse Q1)) : W1 X (.Try body (h₀ :: hs) orelse [] pos) z Q1 := fun c w σ D bb hk =>
  tS_of (ps_try_never hn pssB pssB) (h c w σ { D with nx := fun σ' H' => tSs X orelse D σ' H' } bb
    ⟨fun w' σ' z' b' l q => q c w' σ' D b' (hk.le l), fun v x w' σ' z' b' l r q => hk.rt v x w' σ' z' b' l r q, fun w' σ' z' b' l q => hk.bk w' σ' z' b' l q, fun w' σ' z' b' l q => hk.ct w' σ' z' b' l q⟩)
end
/-- a def's own context, as its excepts know it -/
structure TopX (X : Cy) : Prop where
  stk : X.stack = X.env :: X.outer
  frm : X.env.frame = some X.env.locals
  ex : X.ex = []
section
variable {P : Program} {w : World} {K : PySem.W.Frag} {mg : Str → Option Value} {base : Heap}
theorem fn_okM {x qual : Str} {st : Stmt} {f : Addr} {fd : FuncData} {N ps : List Str} {k : Nat} {R : Rl} {l l2 : List (Str × Nat)} {gl : List Str} (F : Fun K x qual st f fd) (S : FnScope N ps (defScope st))
    (nm : l.all (nmB N (defScope st)) = true) (ns : l2.all (nsB N (defScope st)) = true) (gn : gl.all (gnB (defScope st)) = true)
    (h : ∀ X : Cy, Good X P w K mg base N (defScope st) k → (∀ e s, ¬ X.xe e s) → (∀ C d z, ¬ X.RX C d z) → TopX X → Nms X l → Nss X l2 → Gns X gl → ∀ xs om Qd, xs.length = ps.length → R xs om Qd →
      WS X (defBody st) ⟨xs ++ List.replicate (N.length - xs.length) .no, om⟩ (Fin om.length Qd)) : FnG P w K mg base CX0 (k + 1) f fd ps (spD K ps.length R) := by
  refine fn_ok F S (fun cdv A outer s H E hr xs om Qd hl hR => ?_)
  exact h _ ⟨rfl, rfl, rfl, rfl, rfl, rfl, rfl, rfl, PassesOwn.never, hr, S.kind, fun _ => rfl, S.nd⟩ (fun _ _ h => h) (fun _ _ _ h => h) ⟨rfl, rfl, rfl⟩ (nms_of rfl rfl nm) (nss_of rfl rfl S.nd (fun _ => rfl) ns) (gns_of rfl gn) xs om Qd hl hR
end
end Dl

namespace Dl
open PySem PySem.Spec L2
open PyProof.Rows hiding St

section
variable {X : Cy} {z : Z} {Q : Sl → Z → Prop} {apos cpos : Pos} {o e f : Expr}
/-! d.setdefault(k, x) of a dict of the store -/
theorem we_dsetd (m : M2 X o "setdefault" apos e f cpos) (h : WE X o z fun x z1 => ∃ n kvs, x = .ob n ∧ z1.ob[n]? = some (dkO kvs) ∧ WE X e z1 fun y z2 => WE X f z2 fun u z3 => ∃ kvs3 k, z3.ob[n]? = some (dkO kvs3) ∧ y = .sh (kD k) ∧ kvs3.length < 100000 ∧ (∀ v, valG kvs3 k = some v → Q v z3) ∧ (valG kvs3 k = none → Q u ⟨z3.sl, z3.ob.set n (dkO (putG kvs3 k u))⟩)) :
    WE X (.Call (.Attribute o "setdefault" apos) [e, f] [] cpos) z Q := fun c w σ kk bb hk =>
  tE_of (pe_dsetd peB peB peB m) (h c w σ _ bb fun v x w1 z1 b1 l1 r1 ⟨n, kvs, ex, hn, h1⟩ => by
    subst ex
    obtain ⟨a, ha, rfl⟩ := r1
    obtain ⟨_, l, hl, _⟩ := dk_at (b1.ob n _ a hn ha)
    refine ⟨a, rfl, .inl ⟨l, .inl hl⟩, h1 c w1 σ _ b1 fun v2 y w2 z2 b2 l2 r2 h2 => h2 c w2 σ _ b2 fun v3 u w3 z3 b3 l3 r3 ⟨kvs3, k, hn3, ey, hz, hq1, hq2⟩ => ?_⟩
    subst ey
    have ev := kV_Dq r2
    subst ev
    have ha3 := l3.rho n a (l2.rho n a ha)
    obtain ⟨hS, l3', hl3, hp⟩ := dk_at (b3.ob n _ a hn3 ha3)
    have hlen : l3'.length = kvs3.length := Paired.length hp
    have l13 := (l1.trans l2).trans l3
    refine ⟨l3', k, hl3, rfl, by rw [hlen]; exact Nat.lt_of_lt_of_le hz (by decide), fun v4 e4 => ?_, fun e4 => ?_⟩
    · rcases hp.val k with ⟨e1, e2⟩ | ⟨v5, d, e1, e2, hd⟩
      · rw [e1] at e4
        cases e4
      · rw [e1] at e4
        cases e4
        exact hk _ _ w3 z3 b3 l13 hd (hq1 _ e2)
    · rcases hp.val k with ⟨e1, e2⟩ | ⟨v5, d, e1, e2, hd⟩
      · have b4 := b3.setG (oo := dkO (putG kvs3 k u)) hn3 ha3 hS (hu := .dK (putK l3' k v3)) fun w' l' hS' hH' => dk_ob hS' hH' ((hp.put k r3).mono fun _ _ q => q.mono l')
        exact hk v3 u ⟨w3.rho, w3.S, upd w3.H a (.dK (putK l3' k v3))⟩ _ b4 (l13.trans le_set) (r3.mono le_set) (hq2 e2)
      · rw [e1] at e4
        cases e4)
end
end Dl

namespace Dl
open PySem PySem.Spec L2
open PyProof.Rows hiding St

/-! ### defs that may raise -/
abbrev RlX := List Sl → List OO → (Sl → List OO → Prop) → (Addr → PyData → List OO → Prop) → Prop
/-- what a caller wishes of a def that may raise: Qd of what is told, Xd of what leaves (its class, its what) -/
def spX (K : PySem.W.Frag) (n : Nat) (R : RlX) : Sp := fun vs H Q E => vs.length = n ∧ ∃ (w : Wd) (xs : List Sl) (om : List OO) (Qd : Sl → List OO → Prop) (Xd : Addr → PyData → List OO → Prop), w.H = H ∧ B K w.ct w [] ⟨[], om⟩ ∧ Paired (Vl K w) vs xs ∧ R xs om Qd Xd ∧
  (∀ x om' v w', Qd x om' → B K w.ct w' [] ⟨[], om'⟩ → Vl K w' v x → Q v w'.H) ∧
  ∀ C dat om' (a : Addr) v w', Xd C dat om' → B K w.ct w' [] ⟨[], om'⟩ → w'.S a = some (.xd [("what", v)]) → Dq K w'.S v dat → E (.ref C) (some a) w'.H
structure DfX (P : Program) (w : World) (K : PySem.W.Frag) (mg : Str → Option Value) (base : Heap) (x : Str) (k : Nat) (ps : List Str) (R : RlX) : Prop where
  ex : ∃ (f : Addr) (fd : FuncData), FnG P w K mg base (CXk P w) k f fd ps (spX K ps.length R) ∧ mg x = some (.ref f) ∧ PySem.W.keepIn K (.ref f) = true ∧ Binds K fd ps []
/-- what leaves, the store cut to what the caller knows -/
def LetX (n : Nat) (Xd : Addr → PyData → List OO → Prop) : Addr → PyData → Z → Prop := fun C dat z => ∃ om', Ext n (.sh dat) z.ob (.sh dat) om' ∧ Xd C dat om'
section
variable {P : Program} {w : World} {K : PySem.W.Frag} {mg : Str → Option Value} {base : Heap}
theorem fn_okX {x qual : Str} {st : Stmt} {f : Addr} {fd : FuncData} {N ps : List Str} {k : Nat} {R : RlX} {l l2 : List (Str × Nat)} {gl : List Str} (F : Fun K x qual st f fd) (S : FnScope N ps (defScope st))
    (nm : l.all (nmB N (defScope st)) = true) (ns : l2.all (nsB N (defScope st)) = true) (gn : gl.all (gnB (defScope st)) = true)
    (h : ∀ X : Cy, Good X P w K mg base N (defScope st) k → Nms X l → Nss X l2 → Gns X gl → TopX X → X.top = true → ∀ xs om Qd Xd, xs.length = ps.length → R xs om Qd Xd → X.RX = LetX om.length Xd →
      WS X (defBody st) ⟨xs ++ List.replicate (N.length - xs.length) .no, om⟩ (Fin om.length Qd)) : FnG P w K mg base (CXk P w) (k + 1) f fd ps (spX K ps.length R) := by
  obtain ⟨_, _, _, _, _, _, cdv, _, _, rfl, lk, hcd⟩ := F.ex
  refine fnG_of lk hcd S (fun vs H Q E h => h.1) (fun A outer s H vs Q E hr hsp => ?_)
  obtain ⟨hl, w0, xs, om, Qd, Xd, rfl, b0, hv, hR, hq, hx⟩ := hsp
  have hxl : xs.length = ps.length := by rw [← hv.length]; exact hl
  have tl : TkL (cxOf (CXk P w) P w K mg base N qual (defScope st) f cdv A outer s w0.H E) (Wc (LetX om.length Xd) K w0.ct) := (tkL_of rfl rfl rfl).imp fun cls d σ H hw => by
    obtain ⟨C, a, dat, w', z, v, rfl, rfl, bz, rfl, hH, hd, om', he, hX⟩ := hw
    refine fin_okS b0.len he bz (v := v) (show Vl K w' v (.sh dat) from hd) fun w2 e2 b2 r2 hs => ?_
    rw [← e2]
    exact hx C dat om' a v w2 hX b2 (hs _ _ hH) r2
  refine ⟨_, pssB, h ⟨cxOf (CXk P w) P w K mg base N qual (defScope st) f cdv A outer s w0.H E, LetX om.length Xd, true⟩ ⟨rfl, rfl, rfl, rfl, rfl, rfl, rfl, rfl, passes_of rfl, hr, S.kind, fun _ => rfl, S.nd⟩ (nms_of rfl rfl nm) (nss_of rfl rfl S.nd (fun _ => rfl) ns) (gns_of rfl gn) ⟨rfl, rfl, rfl⟩ rfl xs om Qd Xd hxl hR rfl ⟨w0.ct, tl.tk rfl rfl, fun _ => tl⟩ w0 _ _ ?_ ⟨?_, ?_, ?_, ?_⟩⟩
  · have hp : Paired (Sv K w0) (L2.start N vs) (xs ++ List.replicate (N.length - xs.length) .no) := by
      unfold L2.start
      rw [← hv.length]
      exact paired_start (N := N) _ hv
    exact ⟨b0.same, b0.len, b0.nd, b0.tr, hp, b0.ob, b0.pre, b0.fr, b0.nw, b0.st, b0.nr⟩
  · rintro w' σ' z' b' _ ⟨x', om', he, hQ⟩
    exact fin_ok (k := Q) b0.len he b' (v := .non) vN fun w2 b2 r2 => hq x' om' .non w2 hQ b2 r2
  · rintro v x w' σ' z' b' _ r ⟨x', om', he, hQ⟩
    exact fin_ok (k := Q) b0.len he b' r fun w2 b2 r2 => hq x' om' v w2 hQ b2 r2
  · intro w' σ' z' b' l q
    exact q.elim
  · intro w' σ' z' b' l q
    exact q.elim
end
/-! ### a call of such a def -/
section
variable {X : Cy} {x : Str} {p pos : Pos} {e : Expr} {es : List Expr} {z : Z} {Q : Sl → Z → Prop} {k kk : Nat} {f : Addr} {fd : FuncData} {ps : List Str} {W : WX} {sp : Sp} {t : TA}
theorem pe_callX (tk : Tk X.toCx W) (F : FnG X.prog X.w X.K X.mg X.base (CXk X.prog X.w) k f fd ps sp) (rm : RoomG k X.A) (hg : Gl X x) (hm : X.mg x = some (.ref f)) (hk : PySem.W.keepIn X.K (.ref f) = true) (hb : Binds X.K fd ps [])
    (ha : PA X (e :: es) t) (hdb : (x == ("__debug__" : Str)) = false) (he : starEach (e :: es) X.env = (false, eval e X.env) :: starEach es X.env) (hpl : (backTo pos (starEach es X.env)).any (·.1) = false) :
    PE X (.Call (.Name x p) (e :: es) [] pos) (fun σ H Q => t σ H fun vs H1 => sp (vs ++ []) H1 Q (fun cls d H => W cls d σ H)) := by
  refine ⟨fun pins s σ H Q I h => wpAny_Call_Name_kw (ld_glob I hg hm ?_ hdb)⟩
  refine PySem.W.callWith_K (h₀ := X.base) I.ok.mod.kin hk (thn (ha.run pos pins s σ H _ I h) fun us s1 ⟨vs, H1, J, rel, q⟩ => ⟨J.kIn, ?_⟩) he hpl
  have rel2 : Vals (vs ++ []) (us ++ []) := rel.append .nil
  have ln : (us ++ ([] : List Value)).length = ps.length := rel2.length.symm.trans (F.ln _ _ _ _ q)
  refine wpAny_call (codeAny_mono (F.go X.A X.stack s1 H1 ⟨us, []⟩ (us ++ []) (vs ++ []) Q (fun cls d H => W cls d σ H) rm J.env0 (hb s1 us J.kIn ln) rel2 q) fun r s' hq => ?_)
  match r, hq with
  | .error e, hq => exact tk e s' (XEk.of_call J (fun _ _ _ h => h) hq)
  | .ok (.ret u), hq => exact J.after hq
  | .ok .next, hq => exact hq.elim
  | .ok .brk, hq => exact hq.elim
  | .ok .cont, hq => exact hq.elim
/-- data in; data out, or a refusal -/
def PureX (F : List PyData → PyData → Prop) (G : List PyData → Addr → PyData → Prop) : RlX := fun xs om Q Xd => ∃ ds, xs = ds.map .sh ∧ om = [] ∧ ((∃ d, F ds d ∧ Q (.sh d) []) ∨ ∃ C dat, G ds C dat ∧ Xd C dat [])
theorem call_pureX {F : List PyData → PyData → Prop} {G : List PyData → Addr → PyData → Prop} {c : Ct} {w : Wd} {σ : St} {kk : VK} {vs : List V} {xs : List Sl} {ds : List PyData} {RX : Addr → PyData → Z → Prop} (n : Nat) (b : B X.K c w σ z) (hv : Paired (Vl X.K w) vs xs) (hn : xs.length = n) (hx : allSh xs = some ds)
    (h : (∃ d, F ds d ∧ Q (.sh d) z) ∨ ∃ C dat, G ds C dat ∧ RX C dat z) (hk : Cont X.K c w σ Q kk) : spX X.K n (PureX F G) (vs ++ []) w.H kk (fun cls d H => Wc RX X.K c cls d σ H) := by
  rw [List.append_nil]
  have back : ∀ {w' : Wd}, B X.K (⟨[], w.S, w.H⟩ : Wd).ct w' [] ⟨[], []⟩ → B X.K c ⟨w.rho ++ w'.rho, w'.S, w'.H⟩ σ z ∧ w.Le ⟨w.rho ++ w'.rho, w'.S, w'.H⟩ := fun {w'} b' => by
    obtain ⟨b2, l⟩ := b.back0 b'
    have : (⟨z.sl, z.ob ++ ([] : List OO).map (mpO z.ob.length)⟩ : Z) = z := by
      cases z
      simp
    rw [this] at b2
    exact ⟨b2, l⟩
  have hp : Paired (Vl X.K (⟨[], w.S, w.H⟩ : Wd)) vs xs := by
    rw [allSh_eq hx]
    exact dp_allSh (w := ⟨[], w.S, w.H⟩) (allSh_dp (w := w) hx hv)
  rcases h with ⟨d, hF, hQ⟩ | ⟨C, dat, hG, hR⟩
  · refine ⟨by rw [hv.length]; exact hn, ⟨[], w.S, w.H⟩, xs, [], fun y om => y = .sh d ∧ om = [], fun _ _ _ => False, rfl, b.ent0, hp, ⟨ds, allSh_eq hx, rfl, .inl ⟨d, hF, rfl, rfl⟩⟩, fun y om' v w' hq b' r => ?_, fun _ _ _ _ _ _ q => q.elim⟩
    obtain ⟨rfl, rfl⟩ := hq
    obtain ⟨b2, l⟩ := back b'
    exact hk v (.sh d) ⟨w.rho ++ w'.rho, w'.S, w'.H⟩ z b2 l r hQ
  · refine ⟨by rw [hv.length]; exact hn, ⟨[], w.S, w.H⟩, xs, [], fun _ _ => False, fun C' dat' om => C' = C ∧ dat' = dat ∧ om = [], rfl, b.ent0, hp, ⟨ds, allSh_eq hx, rfl, .inr ⟨C, dat, hG, rfl, rfl, rfl⟩⟩, fun _ _ _ _ q => q.elim, fun C' dat' om' a v w' hq b' hH hd => ?_⟩
    obtain ⟨rfl, rfl, rfl⟩ := hq
    obtain ⟨b2, l⟩ := back b'
    exact ⟨C', a, dat', ⟨w.rho ++ w'.rho, w'.S, w'.H⟩, z, v, rfl, rfl, b2, rfl, hH, hd, hR⟩
theorem we_callPX {F : List PyData → PyData → Prop} {G : List PyData → Addr → PyData → Prop} (d : DfX X.prog X.w X.K X.mg X.base x k ps (PureX F G)) (hr : RoomG kk X.A) (hle : k ≤ kk) (h : WA X (e :: es) z fun xs z1 => ∃ ds, allSh xs = some ds ∧ xs.length = ps.length ∧ ((∃ d, F ds d ∧ Q (.sh d) z1) ∨ ∃ C dat, G ds C dat ∧ X.RX C dat z1))
    (hg : Gl X x) (hdb : (x == ("__debug__" : Str)) = false) (he : starEach (e :: es) X.env = (false, eval e X.env) :: starEach es X.env := by rfl) (hpl : (backTo pos (starEach es X.env)).any (·.1) = false := by rfl) : WE X (.Call (.Name x p) (e :: es) [] pos) z Q := by
  obtain ⟨f, fd, Ff, hm, hk, hb⟩ := d.ex
  exact fun c w σ kx bb hkx => tE_of (pe_callX c.tk Ff (hr.mono hle) hg hm hk hb paB hdb he hpl) (h c w σ _ bb fun vs xs w1 z1 b1 l1 rr ⟨ds, h1, h2, h3⟩ => call_pureX ps.length b1 rr h2 h1 h3 (hkx.le l1))
end
end Dl

set_option maxHeartbeats 4000000
namespace Dl
open PySem PySem.Spec L2
open PyProof.Rows hiding St

/-! ### defs that may be called where an exception is handled, too -/
structure FnB (P : Program) (w : World) (K : PySem.W.Frag) (mg : Str → Option Value) (base : Heap) (k : Nat) (f : Addr) (fd : FuncData) (ps : List Str) (sp : Sp) : Prop where
  ln : ∀ vs H Q E, sp vs H Q E → vs.length = ps.length
  go : ∀ (A : Around) (outer : List Env) (s : Shared) (H : Hp) (args : Args) (us : List Value) (vs : List V) (Q : VK), L2H.RoomH k A → (A.handled = none ∨ ∃ p, L2H.PinOk outer H s p) → Env0 P w K mg base A outer s H → BindsTo s fd args (ps.zip us) → Vals vs us → sp vs H Q E0 →
    codeAny (model P w) A (.call (.ref f) args) (CR CX0 outer P w H s Q E0) s
theorem FnB.mono {P : Program} {w : World} {K : PySem.W.Frag} {mg : Str → Option Value} {base : Heap} {j k : Nat} {f : Addr} {fd : FuncData} {ps : List Str} {sp : Sp} (F : FnB P w K mg base j f fd ps sp) (h : j ≤ k) : FnB P w K mg base k f fd ps sp := ⟨F.ln, fun A o s H as us vs Q hr => F.go A o s H as us vs Q (hr.mono h)⟩
theorem fnB_of {P : Program} {w : World} {K : PySem.W.Frag} {mg : Str → Option Value} {base : Heap} {k : Nat} {f : Addr} {ps N : List Str} {sp : Sp} {name qual : Str} {params : Arguments} {body : List Stmt} {scope : Scope} {dV kV doc pm cdv ct oc : Value} {an od : Option Addr} {osl : Array (Option Value)} (lk : K.lookup f = some ⟨oc, od, .func (PySem.W.fnOf name qual params body scope dV kV doc pm an cdv ct), osl⟩) (hcd : PySem.W.codeIn K cdv qual = true) (S : FnScope N ps scope)
    (ln : ∀ vs H Q E, sp vs H Q E → vs.length = ps.length)
    (hb : ∀ (A : Around) (outer : List Env) (s : Shared) (H : Hp) (vs : List V) (Q : VK), sp vs H Q E0 → ∃ t, PSs (cxOf CX0 P w K mg base N qual scope f cdv A outer s H E0) body t ∧ t { nx := fun _ H' => Q .non H', rt := Q } (start N vs) H)
    (hb2 : ∀ (A : Around) (outer : List Env) (s : Shared) (H : Hp) (vs : List V) (Q : VK) (p : Addr × Obj), sp vs H Q E0 → ∃ t, PSs (L2H.cxH CX0 P w K mg base N qual scope f cdv A outer s H E0 p) body t ∧ t { nx := fun _ H' => Q .non H', rt := Q } (start N vs) H) :
    FnB P w K mg base (k + 1) f (PySem.W.fnOf name qual params body scope dV kV doc pm an cdv ct) ps sp := by
  refine ⟨ln, fun A outer s H as us vs Q rm hh env0 bnd rel q0 => ?_⟩
  have keep0 : ∀ b o, base.get? b = some o → s.heap.get? b = some o := fun b o e => (env0.bs b o e).1
  have kin := env0.mod.kin.keeps keep0
  have nolim := env0.mod.nolimit.keeps keep0
  have kinds : ∀ y ∈ ps.zip us, scope.names.lookup y.1 = some .local ∨ (scope.names.lookup y.1 = some .cell ∧ ((cellsFrom (s.heap.objs.size + 1) scope.names []).lookup y.1).isSome = true) := by
    rintro ⟨n, v⟩ hy
    exact (S.par n (List.of_mem_zip hy).1).imp (fun q => q) fun q => ⟨q, PySem.W.cellsFrom_some _ _ _ (.inl q)⟩
  refine codeAny_call_function rm.depth (kin _ _ lk) rfl S.co S.gen rfl (PySem.W.codeRec_of kin hcd) (bnd _ _ _ _ ?_)
  refine wpAny_newFunctionEnv_cells S.kind kinds fun e0 he0 s1 st => ?_
  subst he0
  refine ⟨nolim.keeps st.toInCall.keep, codeAny_func ?_⟩
  rcases hh with hd | ⟨p, hp⟩
  · obtain ⟨t, pt, tq⟩ := hb A outer s H vs Q q0
    refine wpAny_mono (pt.run [] s1 (start N vs) H _ (inv_start S hd env0 (ln _ _ _ _ q0) rel st) tq) (fun fl s' hs => ?_) fun _ _ hs => hs
    match fl, hs with
    | .ret u, ⟨v, σ', H', J, rv, q⟩ => exact ⟨v, H', J.os, J.bare, J.base, J.hok, rv, q⟩
    | .next, ⟨σ', H', J, q⟩ => exact ⟨V.non, H', J.os, J.bare, J.base, J.hok, rfl, q⟩
    | .brk, ⟨_, _, _, q⟩ => exact q.elim
    | .cont, ⟨_, _, _, q⟩ => exact q.elim
  · obtain ⟨t, pt, tq⟩ := hb2 A outer s H vs Q p q0
    refine wpAny_mono (pt.run [] s1 (start N vs) H _ (L2H.inv_startH S hp env0 (ln _ _ _ _ q0) rel st) tq) (fun fl s' hs => ?_) fun _ _ hs => hs
    match fl, hs with
    | .ret u, ⟨v, σ', H', J, rv, q⟩ => exact ⟨v, H', J.os, J.bare, J.base, J.hok, rv, q⟩
    | .next, ⟨σ', H', J, q⟩ => exact ⟨V.non, H', J.os, J.bare, J.base, J.hok, rfl, q⟩
    | .brk, ⟨_, _, _, q⟩ => exact q.elim
    | .cont, ⟨_, _, _, q⟩ => exact q.elim
theorem roomH_make {k : Nat} {A : Around} (r : L2H.RoomH (k + 1) A) (C : Addr) (us : List Value) (kw : List (Str × Value)) : L2H.RoomH k (A.under (.builtin "type.__call__" ⟨.ref C :: us, kw⟩)) :=
  ⟨by have := r.dp; rw [make_depth]; omega, by have := r.un; rw [make_units]; omega⟩

/-! ### an exception made; raise -/
section
variable {X : Cx} {x : Str} {p np kp pos : Pos} {e : Expr} {C fI : Addr} {k : Nat} {fd : FuncData} {ps : List Str} {sp : Sp} {te : TE} {pins : List (Addr × Obj)} {σ : St} {H1 : Hp} {s1 : Shared} {Q : XK} {us us2 : List Value} {kw : List (Str × Value)} {vs : List V}
theorem call_exK (T : OexC X.K C) (iC : PySem.W.findIn X.K (.ref C) "__init__" = some (some (.ref fI))) (tI : PySem.W.typeIn X.K (.ref fI) = some (.type "function"))
    (F1 : FnB X.prog X.w X.K X.mg X.base k fI fd ps sp) (hr : L2H.RoomH (k + 1) X.A) (hh : X.calm = true ∨ ∃ p, p ∈ X.pn) (hb : ∀ (s : Shared) (a : Addr), X.K.In s.heap → BindsTo s fd ⟨.ref a :: us, kw⟩ (ps.zip (.ref a :: us2)))
    (I1 : Inv X pins σ H1 s1) (r1 : Vals vs us2) (hz : us.length ≤ 1000)
    (q1 : ∀ a, H1 a = none → sp (.ref a :: vs) (upd H1 a (exo a C none)) (fun v H2 => v = .non ∧ ∃ (d : Addr) (fs : List (Str × V)), H2 a = some (exo a C (some d)) ∧ H2 d = some (exd d fs) ∧ H1 d = none ∧ Q (.ref C) (some d) (upd (del H2 a) d (.xd fs))) E0) :
    wpAny (model X.prog X.w) X.A (call (.ref C) us kw) (MkK X pins σ Q) X.xe s1 := by
  obtain ⟨nm, q, N, bs, bm, sn, sub, ab, col, dd, k0, k1, k2, k3, k5, hC, hbm⟩ := T.cls
  obtain ⟨hp, g, dr, tk, os⟩ := s1
  have hsz : hp.objs.size ≤ hp.objs.size + 1 := Nat.le_succ _
  have hn : H1 (hp.objs.size + 1) = none := I1.hok.fresh hsz
  have hq := q1 (hp.objs.size + 1) hn
  have kk : ∀ b o, hp.get? b = some o → ((hp.push (PySem.W.kdv_tup us)).push (PySem.HandSPX.excO C hp.objs.size)).get? b = some o := fun b o e => Heap.get?_push_of_some _ (Heap.get?_push_of_some _ e)
  have hget : ((hp.push (PySem.W.kdv_tup us)).push (PySem.HandSPX.excO C hp.objs.size)).get? (hp.objs.size + 1) = some (PySem.HandSPX.excO C hp.objs.size) := by heap_get
  have I2 : Inv X pins σ (upd H1 (hp.objs.size + 1) (exo (hp.objs.size + 1) C none)) ⟨(hp.push (PySem.W.kdv_tup us)).push (PySem.HandSPX.excO C hp.objs.size), g, dr, tk, os⟩ :=
    I1.laid (t' := tk) (a := hp.objs.size + 1) (o := exo (hp.objs.size + 1) C none) (h' := (hp.push (PySem.W.kdv_tup us)).push (PySem.HandSPX.excO C hp.objs.size)) kk hsz (exo_ok hget)
  have r2 : Vals (V.ref (hp.objs.size + 1) :: vs) (Value.ref (hp.objs.size + 1) :: us2) := .cons rfl r1
  have hus : us.length ≤ sizeLine := by
    rw [sizeLine_eq]
    omega
  have hB := hb ⟨(hp.push (PySem.W.kdv_tup us)).push (PySem.HandSPX.excO C hp.objs.size), g, dr, tk, os⟩ (hp.objs.size + 1) I2.kIn
  have hhd : (X.A.under (.builtin "type.__call__" ⟨.ref C :: us, kw⟩)).handled = none ∨ ∃ p, L2H.PinOk X.stack (upd H1 (hp.objs.size + 1) (exo (hp.objs.size + 1) C none)) ⟨(hp.push (PySem.W.kdv_tup us)).push (PySem.HandSPX.excO C hp.objs.size), g, dr, tk, os⟩ p := by
    rcases hh with hc | ⟨pn, hpn⟩
    · exact .inl (show X.A.handled = none from I1.ok.hd hc)
    · have P1 := I2.pin pn (List.mem_append_left _ hpn)
      exact .inr ⟨pn, P1.1, P1.2.1, fun hmm => (List.mem_cons.mp (I2.stkSub pn.1 hmm)).elim P1.2.2.1 P1.2.2.2.1, P1.2.2.2.2⟩
  refine wpAny_call (PySem.DlX.call_ownK F.excBase_ValueError (fun Y => PySem.HandSPX.refsVE_contains Y bm hbm) (I1.kIn _ _ hC) (PySem.W.looks_findIn I1.kIn iC) (fun self => PySem.W.bind_fn I1.kIn self tI) hus
    (codeAny_mono (F1.go _ X.stack _ _ ⟨Value.ref (hp.objs.size + 1) :: us, kw⟩ (Value.ref (hp.objs.size + 1) :: us2) _ _ (roomH_make hr C us kw) hhd (I2.env0.make C us kw) hB r2 hq) fun r s' hq' => ?_))
  cases r with
  | error er => exact hq'.elim
  | ok fl =>
    cases fl with
    | ret u =>
      obtain ⟨v, H2, os2, bare2, un2, hok2, rv, ev, d, fs, ea, ed, hd1, q2⟩ := hq'
      subst ev
      obtain ⟨h2, g2, d2, t2, os'⟩ := s'
      obtain ⟨t0, G, J, kG, ge, hoe, na⟩ := mk_end0 (d2 := d2) (t2 := t2) I1 hsz kk un2 hok2 os2 bare2 ea ed hd1
      exact ⟨rv, hp.objs.size + 1, _, _, ⟨G, g2, d2, t2, os'⟩, _, .ref C, some d, rfl, J, kG, ge, hoe, ⟨rfl, rfl, fun vs hv => by cases hv; exact ⟨rfl, rfl⟩⟩, rfl, rfl, na, rfl, bare2, raises_own T.exC T.tyC, q2⟩
    | next => exact False.elim hq'
    | brk => exact False.elim hq'
    | cont => exact False.elim hq'
end
/-- RingError's own __init__: of an exception just made; its what is kept -/
def initX (K : PySem.W.Frag) : Sp := fun vs H Q _ => vs.length = 2 ∧ ∃ (a C : Addr) (v : V), vs = [.ref a, v] ∧ OexC K C ∧ PySem.W.findIn K (.ref C) "what" = some none ∧ H a = some (exo a C none) ∧
  ∀ d, H d = none → d ≠ a → Q .non (upd (upd H d (exd d [("what", v)])) a (exo a C (some d)))
/-- the class at C, its name x, as those who raise it know it -/
structure Kx (P : Program) (w : World) (K : PySem.W.Frag) (mg : Str → Option Value) (base : Heap) (x : Str) (k : Nat) (C : Addr) : Prop where
  ox : OexC K C
  no : PySem.W.findIn K (.ref C) "what" = some none
  mg_ : mg x = some (.ref C)
  ini : ∃ (fI : Addr) (fd : FuncData), PySem.W.findIn K (.ref C) "__init__" = some (some (.ref fI)) ∧ PySem.W.typeIn K (.ref fI) = some (.type "function") ∧ FnB P w K mg base k fI fd ["self", "what"] (initX K) ∧ Binds K fd ["self", "what"] [] ∧ ∀ (s : Shared) (a u : Value), BindsTo s fd ⟨[a], [("what", u)]⟩ [("self", a), ("what", u)]
/-- C(e) -/
def tMk1 (C : Addr) (te : TE) : St → Hp → XK → Prop := fun σ H Q => te σ H fun v H1 => ∃ v', [v] = [v'] ∧ ∀ d, H1 d = none → Q (.ref C) (some d) (upd H1 d (.xd [("what", v')]))
theorem what_end {H1 : Hp} {a C d : Addr} {v : V} (na : H1 a = none) : upd (del (upd (upd (upd H1 a (exo a C none)) d (exd d [("what", v)])) a (exo a C (some d))) a) d (.xd [("what", v)]) = upd H1 d (.xd [("what", v)]) := by
  funext b
  by_cases hb : b = d
  · subst hb
    rw [upd_same, upd_same]
  · rw [upd_ne hb, upd_ne hb]
    by_cases ha : b = a
    · subst ha
      rw [del_same, na]
    · rw [del_ne ha, upd_ne ha, upd_ne hb, upd_ne ha]
theorem initX_q {K : PySem.W.Frag} {C a : Addr} {v : V} {H1 : Hp} {Q : XK} {E : XK} (T : OexC K C) (no : PySem.W.findIn K (.ref C) "what" = some none) (na : H1 a = none) (h : ∀ d, H1 d = none → Q (.ref C) (some d) (upd H1 d (.xd [("what", v)]))) :
    initX K [.ref a, v] (upd H1 a (exo a C none)) (fun v H2 => v = .non ∧ ∃ (d : Addr) (fs : List (Str × V)), H2 a = some (exo a C (some d)) ∧ H2 d = some (exd d fs) ∧ H1 d = none ∧ Q (.ref C) (some d) (upd (del H2 a) d (.xd fs))) E := by
  refine ⟨rfl, a, C, v, rfl, T, no, upd_same, fun d nd hda => ?_⟩
  have nd1 : H1 d = none := by rw [upd_ne hda] at nd; exact nd
  refine ⟨rfl, d, [("what", v)], upd_same, by rw [upd_ne hda, upd_same], nd1, ?_⟩
  rw [what_end na]
  exact h d nd1
section
variable {X : Cx} {x : Str} {p np kp pos : Pos} {e : Expr} {C : Addr} {k kk : Nat} {te : TE}
theorem pmk1 (G : Kx X.prog X.w X.K X.mg X.base x k C) (hr : L2H.RoomH kk X.A) (hle : k + 1 ≤ kk) (hh : X.calm = true ∨ ∃ p, p ∈ X.pn) (hg : Gl X x) (hdb : (x == ("__debug__" : Str)) = false) (he : PE X e te)
    (hs : starEach [e] X.env = (false, eval e X.env) :: starEach [] X.env) (hpl : (backTo pos (starEach [] X.env)).any (·.1) = false) : PMkK X (.Call (.Name x p) [e] [] pos) (tMk1 C te) := by
  obtain ⟨fI, fd, i1, i2, F1, hb, hb2⟩ := G.ini
  intro pins s σ H Q I h
  refine wpAny_Call_Name_kw (ld_glob I hg G.mg_ ?_ hdb)
  refine PySem.W.callWith_K (h₀ := X.base) I.ok.mod.kin G.ox.kC (thn ((pa_cons he pa_nil hs).run pos pins s σ H (fun vs H1 => ∃ v, vs = [v] ∧ ∀ d, H1 d = none → Q (.ref C) (some d) (upd H1 d (.xd [("what", v)]))) I h) fun us s1 ⟨vs, H1, I1, r1, v, ev, q1⟩ => ⟨I1.kIn, ?_⟩) hs hpl
  subst ev
  obtain ⟨u, rfl, ru⟩ := vals1 r1
  exact call_exK (us2 := [u]) (vs := [v]) G.ox i1 i2 F1 (hr.mono hle) hh (fun s a kin => hb s [.ref a, u] kin rfl) I1 (.cons ru .nil) (by simp) fun a na => initX_q G.ox G.no na q1
theorem pmkW (G : Kx X.prog X.w X.K X.mg X.base x k C) (hr : L2H.RoomH kk X.A) (hle : k + 1 ≤ kk) (hh : X.calm = true ∨ ∃ p, p ∈ X.pn) (hg : Gl X x) (hdb : (x == ("__debug__" : Str)) = false) (he : PE X e te)
    (hall : (backToKw pos (keywordEach [⟨some "what", e, kp⟩] X.env)).all (·.1.isSome) = true) (hks : (backToKw pos (keywordEach [⟨some "what", e, kp⟩] X.env)).filterMap (·.1) = ([("what" : Str)] : List Str))
    (hpl : ((backTo pos (starEach [] X.env)).any (·.1) || (backToKw pos (keywordEach [⟨some "what", e, kp⟩] X.env)).any (·.1.isNone)) = false) : PMkK X (.Call (.Name x p) [] [⟨some "what", e, kp⟩] pos) (tMk1 C te) := by
  obtain ⟨fI, fd, i1, i2, F1, hb, hb2⟩ := G.ini
  intro pins s σ H Q I h
  refine wpAny_Call_Name_kw (ld_glob I hg G.mg_ ?_ hdb)
  refine PySem.W.callWith_KW0 (h₀ := X.base) I.ok.mod.kin G.ox.kC hall (thn ((pk_cons (nm := some "what") (kpos := kp) he pk_nil).run pos pins s σ H (fun vs H1 => ∃ v, vs = [v] ∧ ∀ d, H1 d = none → Q (.ref C) (some d) (upd H1 d (.xd [("what", v)]))) I h) fun ws s2 hws => ?_) hpl
  obtain ⟨zs, H2, J, rz, v, ev, q1⟩ := hws
  subst ev
  obtain ⟨u, rfl, ru⟩ := vals1 rz
  refine ⟨J.kIn, ?_⟩
  rw [hks]
  exact call_exK (us := []) (us2 := [u]) (vs := [v]) (kw := [("what", u)]) G.ox i1 i2 F1 (hr.mono hle) hh (fun s a kin => hb2 s (.ref a) u) J (.cons ru .nil) (by simp) fun a na => initX_q G.ox G.no na q1
end
section
variable {X : Cy} {x : Str} {p pos pos' kp : Pos} {e : Expr} {z : Z} {Q1 : Out → Prop} {C : Addr} {k kk : Nat}
theorem raised {c : CtX X} {w1 : Wd} {σ : St} {z1 : Z} {v : V} {y : Sl} (b1 : B X.K c w1 σ z1) (r1 : Vl X.K w1 v y) (h : ∃ dat, y = .sh dat ∧ X.RX C dat z1) : ∀ d, w1.H d = none → Wc X.RX X.K c (.ref C) (some d) σ (upd w1.H d (.xd [("what", v)])) := fun d nd => by
  obtain ⟨dat, ey, hR⟩ := h
  subst ey
  exact ⟨C, d, dat, ⟨w1.rho, upd w1.S d (.xd [("what", v)]), upd w1.H d (.xd [("what", v)])⟩, z1, v, rfl, rfl, b1.newS nd, rfl, upd_same, Dp_mono (le_new (b1.freshS nd)).st r1, hR⟩
/-- raise C(e) -/
theorem w1_raise (G : Kx X.prog X.w X.K X.mg X.base x k C) (hr : RoomG kk X.A) (hle : k + 1 ≤ kk) (hc : X.calm = true) (hg : Gl X x) (hdb : (x == ("__debug__" : Str)) = false)
    (h : WE X e z fun y z1 => ∃ dat, y = .sh dat ∧ X.RX C dat z1) (he : starEach [e] X.env = (false, eval e X.env) :: starEach [] X.env := by rfl) (hpl : (backTo pos (starEach [] X.env)).any (·.1) = false := by rfl) :
    W1 X (.Raise (some (.Call (.Name x p) [e] [] pos)) none pos') z Q1 := fun c w σ D bb hk =>
  tS_of (ps_raiseK hc c.tk (pmk1 G ⟨hr.r.dp, hr.r.un⟩ hle (.inl hc) hg hdb peB he hpl)) (h c w σ _ bb fun v y w1 z1 b1 l1 r1 hq => ⟨v, rfl, raised b1 r1 hq⟩)
/-- raise C(what=e) -/
theorem w1_raiseW (G : Kx X.prog X.w X.K X.mg X.base x k C) (hr : RoomG kk X.A) (hle : k + 1 ≤ kk) (hc : X.calm = true) (hg : Gl X x) (hdb : (x == ("__debug__" : Str)) = false)
    (h : WE X e z fun y z1 => ∃ dat, y = .sh dat ∧ X.RX C dat z1) (hall : (backToKw pos (keywordEach [⟨some "what", e, kp⟩] X.env)).all (·.1.isSome) = true := by rfl) (hks : (backToKw pos (keywordEach [⟨some "what", e, kp⟩] X.env)).filterMap (·.1) = ([("what" : Str)] : List Str) := by rfl)
    (hpl : ((backTo pos (starEach [] X.env)).any (·.1) || (backToKw pos (keywordEach [⟨some "what", e, kp⟩] X.env)).any (·.1.isNone)) = false := by rfl) :
    W1 X (.Raise (some (.Call (.Name x p) [] [⟨some "what", e, kp⟩] pos)) none pos') z Q1 := fun c w σ D bb hk =>
  tS_of (ps_raiseK hc c.tk (pmkW G ⟨hr.r.dp, hr.r.un⟩ hle (.inl hc) hg hdb peB hall hks hpl)) (h c w σ _ bb fun v y w1 z1 b1 l1 r1 hq => ⟨v, rfl, raised b1 r1 hq⟩)
end
section
variable {P : Program} {w : World} {K : PySem.W.Frag} {mg : Str → Option Value} {base : Heap} {X : Cy} {N : List Str} {sc : Scope} {k : Nat}
theorem Good.dfx (g : Good X P w K mg base N sc k) {x : Str} {j : Nat} {ps : List Str} {R : RlX} (d : DfX P w K mg base x j ps R) : DfX X.prog X.w X.K X.mg X.base x j ps R := by
  rw [g.prog, g.w, g.K, g.mg, g.base]
  exact d
theorem Good.kx (g : Good X P w K mg base N sc k) {x : Str} {j : Nat} {C : Addr} (d : Kx P w K mg base x j C) : Kx X.prog X.w X.K X.mg X.base x j C := by
  rw [g.prog, g.w, g.K, g.mg, g.base]
  exact d
end
end Dl

set_option maxHeartbeats 2000000
namespace Dl
open PySem PySem.Spec L2
open PyProof.Rows hiding St

/-! ### raising where an exception is handled -/
/-- the contexts of the handled one, as they lie; v none of them -/
inductive HC (h : Heap) (v : Addr) : Nat → Value → Prop
  | nil : HC h v 0 .none
  | cons {a : Addr} {o : Obj} {vs : Array Value} {c : Value} {n : Nat} : h.get? a = some o → o.data = .fields vs → vs[2]? = some c → a ≠ v → HC h v n c → HC h v (n + 1) (.ref a)
theorem Chn.hc {P : Program} {w : World} {H : Hp} {h : Heap} {v : Addr} (hok : HOk P w H h) (nv : H v = none) {n : Nat} {c : Value} (x : Chn H n c) : HC h v n c := by
  induction x with
  | nil => exact .nil
  | @cons a cls d c n e _ ih =>
    have z : ObjOk P w H h a (exh a cls d c) := hok a _ e
    obtain ⟨o, vs, h1, _, _, h2, h3⟩ := (show (∃ (o : Obj) (vs : Array Value), h.get? a = some o ∧ o.cls = cls ∧ o.dict = d ∧ o.data = .fields vs ∧ vs[2]? = some c) from z.1)
    exact .cons h1 h2 h3 (fun q => by rw [q, nv] at e; cases e) ih
section
variable {prog : Program} {w : World} {A : Around} {E : Value → Shared → Prop} {s : Shared} {v : Addr}
theorem unchain_quiet {as : Args} : (Code.builtin "proto.unchain" as).quiet = true := Code.quiet_builtin _ (by decide +kernel)
theorem unchain_ok {R : Result → Shared → Prop} (hR : R (.ok (.ret .none)) s) : ∀ (n : Nat) (m : Nat) (o slow : Addr) (tg : Bool), HC s.heap v (n + 1) (.ref o) → HC s.heap v m (.ref slow) → n + 1 ≤ m → codeAny (model prog w) A (.builtin "proto.unchain" ⟨[.ref v, .ref o, .ref slow, .bool tg], []⟩) R s := by
  intro n
  induction n with
  | zero =>
    intro m o slow tg ho hsl hm
    refine codeAny_builtin HotX.entry_unchain ?_
    cases ho with
    | cons h1 d1 c1 ne r =>
      cases r
      show wpAny _ _ (field (.ref o) 2 >>= _) _ _ s
      refine wpAny_bind (wpAny_field h1 d1 c1 ?_)
      rw [if_pos (show (Value.none == Value.none) = true from rfl)]
      exact wpAny_pure hR
  | succ n ih =>
    intro m o slow tg ho hsl hm
    refine codeAny_builtin HotX.entry_unchain ?_
    cases ho with
    | @cons _ _ _ c _ h1 d1 c1 ne r =>
      have r0 := r
      cases r with
      | @cons b _ _ c2 _ h2 d2 c2' ne2 r2 =>
        show wpAny _ _ (field (.ref o) 2 >>= _) _ _ s
        refine wpAny_bind (wpAny_field h1 d1 c1 ?_)
        rw [if_neg (show ¬ (Value.ref b == Value.none) = true from by simp)]
        dsimp only
        rw [if_neg (show ¬ (Value.ref b == Value.ref v) = true from by simpa using ne2)]
        by_cases hb : (Value.ref b == Value.ref slow) = true
        · rw [if_pos hb]
          exact wpAny_bind (wpAny_rule (wpAny_pure hR))
        · rw [if_neg hb]
          cases tg with
          | false =>
            refine wpAny_bind (wpAny_pure ?_)
            exact wpAny_pure ⟨unchain_quiet, ih m b slow true r0 hsl (by omega)⟩
          | true =>
            cases hsl with
            | @cons _ _ _ cs k g1 e1 f1 gne gr =>
              cases gr with
              | nil => omega
              | @cons b2 _ _ cs2 k2 g2 e2 f2 gne2 gr2 =>
                refine wpAny_bind (wpAny_field g1 e1 f1 ?_)
                exact wpAny_pure ⟨unchain_quiet, ih _ b b2 false r0 (.cons g2 e2 f2 gne2 gr2) (by omega)⟩
theorem raiseNew_chn {α : Type} {x1 : Addr} {n : Nat} {oe : Obj} {vs : Array Value} {Q : α → Shared → Prop} (hh : A.handled = some (.ref x1)) (hc : HC s.heap v (n + 1) (.ref x1)) (ha : s.heap.get? v = some oe) (da : oe.data = .fields vs) (hi : 2 < vs.size)
    (hE : E (.ref v) { s with heap := s.heap.update v (Obj.mapFields (·.setIfInBounds 2 (.ref x1))) }) : wpAny (model prog w) A (raiseNew (.ref v) : Sem α) Q E s := by
  have hne : x1 ≠ v := by
    cases hc with
    | cons _ _ _ ne _ => exact ne
  unfold raiseNew
  refine wpAny_bind (wpAny_handled ?_)
  rw [hh]
  have hb : (Value.ref x1 != Value.ref v) = true := HotX.ref_bne hne
  have un : ∀ {Q : Value → Shared → Prop}, Q .none s → wpAny (model prog w) A (holding [Value.ref v] (runValue (.builtin "proto.unchain" ⟨[.ref v, .ref x1, .ref x1, .bool false], []⟩))) Q E s := fun {Q} q =>
    wpAny_holding (wpAny_runValue (unchain_ok q n (n + 1) x1 x1 false hc hc (Nat.le_refl _)))
  first
  | (show wpAny _ _ (if (Value.ref x1 != Value.ref v) = true then _ else _) _ _ _
     rw [if_pos hb]
     first
     | exact wpAny_bind (un (wpAny_bind (HotX.chained ha da hi (wpAny_throw hE))))
     | exact wpAny_bind (wpAny_bind (un (HotX.chained ha da hi (wpAny_throw hE)))))
  | (refine wpAny_bind ?_
     show wpAny _ _ (if (Value.ref x1 != Value.ref v) = true then _ else _) _ _ _
     rw [if_pos hb]
     exact wpAny_bind (un (HotX.chained ha da hi (wpAny_throw hE))))
/-- the heap behind `from c`: field 3 is c, field 4 is True -/
def fromH (h : Heap) (a : Addr) (c : Value) : Heap := (h.update a (Obj.mapFields (·.setIfInBounds 3 c))).update a (Obj.mapFields (·.setIfInBounds 4 (.bool true)))
theorem fromH_at {h : Heap} {a : Addr} {c : Value} {oe : Obj} {vs : Array Value} (ha : h.get? a = some oe) (hd : oe.data = .fields vs) :
    (fromH h a c).get? a = some ((oe.mapFields (·.setIfInBounds 3 c)).mapFields (·.setIfInBounds 4 (.bool true))) ∧ ((oe.mapFields (·.setIfInBounds 3 c)).mapFields (·.setIfInBounds 4 (.bool true))).data = .fields ((vs.setIfInBounds 3 c).setIfInBounds 4 (.bool true)) := by
  have hd3 := Obj.data_mapFields hd (·.setIfInBounds 3 c)
  have ha3 := Heap.get?_update_self (Obj.mapFields (·.setIfInBounds 3 c)) ha (Obj.isFreed_of_fields hd3)
  have hd4 := Obj.data_mapFields hd3 (·.setIfInBounds 4 (.bool true))
  exact ⟨Heap.get?_update_self (Obj.mapFields (·.setIfInBounds 4 (.bool true))) ha3 (Obj.isFreed_of_fields hd4), hd4⟩
theorem fromH_ne {h : Heap} {a b : Addr} {c : Value} (hne : a ≠ b) : (fromH h a c).get? b = h.get? b := by
  unfold fromH
  rw [Heap.get?_update_other _ _ hne, Heap.get?_update_other _ _ hne]
theorem HC.keep {h h' : Heap} {n : Nat} {c : Value} (k : ∀ b, b ≠ v → h'.get? b = h.get? b) (x : HC h v n c) : HC h' v n c := by
  induction x with
  | nil => exact .nil
  | cons h1 d1 c1 ne _ ih => exact .cons ((k _ ne).trans h1) d1 c1 ne ih
/-- raise x from c, c the handled one -/
theorem raise_from {env : Env} {x c : Sem Value} {Q : Flow → Shared → Prop} {x1 : Addr} (hh : A.handled = some (.ref x1))
    (h : wpAny (model prog w) A x (fun u s₁ => ∃ n a oe vs cls, u = .ref a ∧ s₁.heap.get? a = some oe ∧ oe.cls = cls ∧ oe.data = .fields vs ∧ vs[1]? = some .none ∧ vs.size = 6 ∧ HC s₁.heap a (n + 1) (.ref x1) ∧
      PySem.W.Looks (model prog w) s₁.heap (isSubtype cls (.type "BaseException")) true ∧ PySem.W.Looks (model prog w) (fromH s₁.heap a (.ref x1)) (typeOf cls) (.type "type") ∧ PySem.W.Looks (model prog w) s₁.heap (isInstance (.ref x1) (.type "BaseException")) true ∧
      wpAny (model prog w) A c (fun u2 s2 => u2 = .ref x1 ∧ s2 = s₁) E s₁ ∧ E (.ref a) { s₁ with heap := (fromH s₁.heap a (.ref x1)).update a (Obj.mapFields (·.setIfInBounds 2 (.ref x1))) }) E s) :
    wpAny (model prog w) A (raiseStmt env (some x) (some c)) Q E s := by
  unfold raiseStmt
  dsimp only
  refine wpAny_bind (wpAny_mono h (fun v s₁ h₁ => ?_) fun _ _ x => x)
  obtain ⟨n, a, oe, vs, cls, rfl, ha, hcls, hd, h1, hsz, hc, L1, L3, L5, hcs, hE⟩ := h₁
  have hne : x1 ≠ a := by
    cases hc with
    | cons _ _ _ ne _ => exact ne
  have LT : PySem.W.Looks (model prog w) s₁.heap (typeOf (.ref a)) cls := fun A Q E s k q => wpAny_typeOf_ref (k _ _ ha) (by rw [hcls]; exact q)
  have LI : PySem.W.Looks (model prog w) s₁.heap (isInstance (.ref a) (.type "BaseException")) true := LT.andThen L1
  have hnt : ∀ {b : Addr} {ob : Obj} {ws : Array Value} {Q' : Bool → Shared → Prop} {s2 : Shared}, s2.heap.get? b = some ob → ob.data = .fields ws → Q' false s2 → wpAny (model prog w) A (isType (.ref b)) Q' E s2 := by
    intro b ob ws Q' s2 hb hw hq
    simp only [isType, loadHead]
    refine wpAny_bind (wpAny_loadPart hb ?_)
    rw [hw]; exact wpAny_pure hq
  have hd3 := Obj.data_mapFields hd (·.setIfInBounds 3 (.ref x1))
  have ha3 := Heap.get?_update_self (Obj.mapFields (·.setIfInBounds 3 (.ref x1))) ha (Obj.isFreed_of_fields hd3)
  obtain ⟨ha4, hd4⟩ := fromH_at (c := .ref x1) ha hd
  have s3 : 3 < vs.size := by omega
  have s4 : 4 < (vs.setIfInBounds 3 (Value.ref x1)).size := by rw [Array.size_setIfInBounds]; omega
  have s2 : 2 < ((vs.setIfInBounds 3 (Value.ref x1)).setIfInBounds 4 (Value.bool true)).size := by rw [Array.size_setIfInBounds, Array.size_setIfInBounds]; omega
  have h14 : ((vs.setIfInBounds 3 (Value.ref x1)).setIfInBounds 4 (Value.bool true))[1]? = some Value.none := by
    rw [Array.getElem?_setIfInBounds_ne (by decide), Array.getElem?_setIfInBounds_ne (by decide)]
    exact h1
  have hcls4 : ((oe.mapFields (·.setIfInBounds 3 (.ref x1))).mapFields (·.setIfInBounds 4 (.bool true))).cls = cls := by rw [Obj.cls_mapFields, Obj.cls_mapFields]; exact hcls
  have LT4 : PySem.W.Looks (model prog w) (fromH s₁.heap a (.ref x1)) (typeOf (.ref a)) cls := fun A Q E s k q => wpAny_typeOf_ref (k _ _ ha4) (by rw [hcls4]; exact q)
  have hc4 : HC (fromH s₁.heap a (.ref x1)) a (n + 1) (.ref x1) := hc.keep fun b hb => fromH_ne (Ne.symm hb)
  have rest : wpAny (model prog w) A (do
      let b ← isType (.ref a)
      if b = true then do
        let e ← holding [.ref a] (raisedFor (.ref a) (.ref a))
        setFlight e none
        raiseNew e
      else do
        let e ← raisedInstance (.ref a)
        setFlight e none
        raiseNew e : Sem Flow) Q E { s₁ with heap := fromH s₁.heap a (.ref x1) } := by
    refine wpAny_bind (hnt ha4 hd4 ?_)
    simp only [Bool.false_eq_true, if_false]
    unfold raisedInstance
    refine wpAny_bind (wpAny_bind (LT4.here (wpAny_bind (L3.here ?_))))
    rw [if_pos (beq_self_eq_true _)]
    refine wpAny_pure ?_
    unfold setFlight
    refine wpAny_bind (wpAny_bind (wpAny_field ha4 hd4 h14 ?_))
    rw [if_neg (by decide)]
    refine wpAny_pure ?_
    exact raiseNew_chn (s := { s₁ with heap := fromH s₁.heap a (.ref x1) }) hh hc4 ha4 hd4 s2 hE
  obtain ⟨ob, ws, hb1, hb2⟩ : ∃ ob ws, s₁.heap.get? x1 = some ob ∧ ob.data = .fields ws := by
    cases hc with
    | cons g1 g2 _ _ _ => exact ⟨_, _, g1, g2⟩
  refine wpAny_bind (wpAny_holding (wpAny_mono hcs (fun u2 s2' hu => ?_) fun _ _ x => x))
  obtain ⟨rfl, rfl⟩ := hu
  refine wpAny_bind (wpAny_pure ?_)
  dsimp only
  refine wpAny_bind (wpAny_holding ?_)
  unfold excFromValue isExcClass
  refine wpAny_bind (wpAny_bind (hnt ha hd ?_))
  simp only [Bool.false_eq_true, if_false]
  refine wpAny_pure ?_
  simp only [Bool.false_eq_true, if_false]
  refine wpAny_bind (LI.here ?_)
  simp only [if_true]
  refine wpAny_pure ?_
  rw [if_neg (show ¬ (Value.ref x1 == Value.none) = true from by simp)]
  refine wpAny_bind (wpAny_holding ?_)
  refine wpAny_bind (wpAny_bind (hnt hb1 hb2 ?_))
  simp only [Bool.false_eq_true, if_false]
  refine wpAny_pure ?_
  simp only [Bool.false_eq_true, if_false]
  refine wpAny_bind (L5.here ?_)
  simp only [if_true]
  refine wpAny_pure ?_
  exact wpAny_bind (wpAny_setField ha hd s3 (wpAny_bind (wpAny_setField ha3 hd3 s4 rest)))
end

/-! ### try -/
theorem ns_upTo {h h' : Heap} {L : Addr} {m : Str → Option Value} (up : h.UpToSlots h') (x : h.Ns L m) : h'.Ns L m := by
  obtain ⟨o, es, ep, ho, hd, r⟩ := x
  obtain ⟨sl, e⟩ := up L o ho fun vs z => by
    rw [hd] at z
    cases z
  exact ⟨_, es, ep, e, hd, r⟩
theorem funs_but {h h' base : Heap} {L : Addr} {m : Str → Option Value} (hs : Heap.SameBut L h h') (hn : h'.Ns L m) : ∀ {l : List Env}, h.FunFrames base l → h'.FunFrames base l
  | [], _ => trivial
  | _ :: _, ⟨hk, ⟨L', o, hf, hb, ho, hd⟩, hr⟩ => by
    refine ⟨hk, ?_, funs_but hs hn hr⟩
    by_cases q : L' = L
    · obtain ⟨o', es, ep, ho', hd', _⟩ := hn
      exact ⟨L', o', hf, hb, by rw [q]; exact ho', fun vs z => by rw [hd'] at z; cases z⟩
    · exact ⟨L', o, hf, hb, (hs.2 L' q).trans ho, hd⟩
theorem held_but {h h' B : Heap} {l : List Env} {a L L2 : Addr} {Z : Obj → Prop} {m m' : Str → Option Value} (x : HandSPX.HeldZ B l a Z L2 h) (hn : h.Ns L m) (hs : Heap.SameBut L h h') (hn' : h'.Ns L m') (hB : B.get? L = none) : HandSPX.HeldZ B l a Z L2 h' := by
  obtain ⟨x1, x2, x3, oe, vs, T, oT, ts, he, hz, hd, h1, hnT, hTe, hT, hdT, h3⟩ := x
  obtain ⟨oL, es, ep, hoL, hdL, _⟩ := hn
  have neE : a ≠ L := fun q => by
    rw [q, hoL] at he
    have z := Option.some.inj he
    rw [← z, hdL] at hd
    cases hd
  have neT : T ≠ L := fun q => by
    rw [q, hoL] at hT
    have z := Option.some.inj hT
    rw [← z, hdL] at hdT
    cases hdT
  exact ⟨fun b o hb => (hs.2 b fun q => by rw [q, hB] at hb; cases hb).trans (x1 b o hb), x2, funs_but hs hn' x3, oe, vs, T, oT, ts, (hs.2 a neE).trans he, hz, hd, h1, hnT, hTe, (hs.2 T neT).trans hT, hdT, h3⟩
/-- noted -/
theorem Sky.note {M : Model} {A : Around} {E₁ : Value → Shared → Prop} {env : Env} {outer : List Env} {L a : Addr} {Z : Obj → Prop} {Q : Unit → Shared → Prop} {B : Heap} {s : Shared} (hZ : PXN.Steady1 Z) (hfr : A.frames = some (env :: outer)) (hf : env.frame = some L)
    (x : Sky B (env :: outer) a Z L s.heap) (hQ : ∀ h', HandSPX.HeldZ B (env :: outer) a Z L h' → s.heap.UpToSlots h' → Q () { s with heap := h' }) : wpAny M A (noteFrame (.ref a) env) Q E₁ s := by
  rcases x with ⟨hB, hn, hl, oe, vs, he, hz, hd, h1⟩ | fl | hh
  · exact PXN.look_newZ hZ hfr hl hf he hB hn hd h1 hz hQ
  · exact PXN.looks_onZ hZ hfr hf fl hQ
  · exact HandSPX.againZ hf hh.2.2.2 (hQ s.heap hh (Heap.UpToSlots.refl _))
/-- an exception caught: on the ground again -/
structure Cau (X : Cx) (pins : List (Addr × Obj)) (a : Addr) (B : Heap) (sI : Shared) (σ : St) (H : Hp) (cls : Value) (d : Option Addr) (c : Value) (s' : Shared) : Prop where
  I : Inv X pins σ H sI
  nb : ∀ b o, sI.heap.get? b = some o → b ∉ frs X.stack → B.get? b = some o
  up : sI.heap.UpToSlots s'.heap
  fl : HandSPX.FlyingZ B X.stack a (Zk cls d c) s'.heap
  na : H a = none
  os : s'.os = sI.os
  ag : AllBare s'.gens
section
variable {X : Cx} {pins : List (Addr × Obj)} {σ : St} {H : Hp} {sI s' : Shared} {B : Heap} {a : Addr} {cls c : Value} {d : Option Addr}
theorem Cau.J (C : Cau X pins a B sI σ H cls d c s') : Inv X pins σ H s' := C.I.landed C.nb C.fl.1 C.up C.os C.ag
theorem Cau.moved (C : Cau X pins a B sI σ H cls d c s') {h : Heap} (fl : HandSPX.FlyingZ B X.stack a (Zk cls d c) h) (up : s'.heap.UpToSlots h) : Cau X pins a B sI σ H cls d c { s' with heap := h } := ⟨C.I, C.nb, C.up.trans up, fl, C.na, C.os, C.ag⟩
theorem Cau.nfr (C : Cau X pins a B sI σ H cls d c s') : a ∉ frs X.stack := fun hm => by
  obtain ⟨oe, vs, he, hz, hd⟩ := C.fl.there
  obtain ⟨_, o', e', hnf⟩ := C.fl.2.2.1.mem hm
  rw [he] at e'; cases e'
  exact hnf _ hd
theorem Cau.suite (C : Cau X pins a B sI σ H cls d c s') (hs : X.stack = X.env :: X.outer) (hf : X.env.frame = some X.env.locals) {oe : Obj} {vs : Array Value} (he : s'.heap.get? a = some oe) (hd : oe.data = .fields vs) : Inv (X.suite a ((a, oe) :: (X.pn ++ pins))) [] σ H s' := by
  have nfr := C.nfr
  rw [hs] at nfr
  have nL : a ≠ X.env.locals := fun z => nfr (List.mem_filterMap.mpr ⟨X.env, List.mem_cons_self, by rw [hf, z]⟩)
  have nF : a ∉ X.fs := fun hm => by
    obtain ⟨e, he, q⟩ := List.mem_filterMap.mp hm
    exact nfr (List.mem_filterMap.mpr ⟨e, List.mem_cons_of_mem _ he, q⟩)
  exact C.J.suite he hd C.na nL nF
end
/-- what is behind a clause's suite -/
def Post (X : Cx) (pins : List (Addr × Obj)) (D : Ends) (nm : Option Str) (pos : Pos) (r : Result) (s2 : Shared) : Prop :=
  match r with
  | .ok f => (match nm with
    | none => SP X pins D f s2
    | some n => wpAny (model X.prog X.w) X.A (do bindName X.env n .none; unbindBehindTheSuite X.env n pos) (fun _ s3 => SP X pins D f s3) X.xe s2)
  | .error x => cameBackBy (model X.prog X.w) X.A X.env X.xe x s2
/-- what a clause's suite does -/
def SuiteK (X : Cx) (nm : Option Str) (suite : List Stmt) (pos : Pos) (W : Ends → WX) : Prop := ∀ (pins : List (Addr × Obj)) (D : Ends) (a : Addr) (B : Heap) (sI : Shared) (σ : St) (H : Hp) (cls : Value) (d : Option Addr) (c : Value) (n : Nat) (s' : Shared), Cau X pins a B sI σ H cls d c s' → Chn H n c → W D cls d σ H →
  codeAny (model X.prog X.w) (X.A.mark (some (.ref a))) (.handlers (.ref a) [.ExceptHandler none nm suite pos] X.env) (Post X pins D nm pos) s'
def Hands (X : Cx) (hds : List ExceptHandler) (W : Ends → WX) : Prop := ∀ (pins : List (Addr × Obj)) (D : Ends) (a : Addr) (B : Heap) (sI : Shared) (σ : St) (H : Hp) (cls : Value) (d : Option Addr) (c : Value) (n : Nat) (s' : Shared), Cau X pins a B sI σ H cls d c s' → Chn H n c → W D cls d σ H →
  wpAny (model X.prog X.w) X.A (handleBy (.ref a) X.env hds) (SP X pins D) X.xe s'
section
variable {X : Cx} {x : Str} {c0 : Value} {body suite : List Stmt} {h₀ : ExceptHandler} {hds : List ExceptHandler} {nm : Option Str} {np pos pos' : Pos} {tb : WX → TS} {Wout : WX} {Ws Wr : Ends → WX}
/-- no clause names it -/
theorem hands_nil (hs : X.stack = X.env :: X.outer) (hf : X.env.frame = some X.env.locals) (tk : Tk X Wout) : Hands X [] (fun _ => Wout) := by
  intro pins D a B sI σ H cls d c n s' C ch w
  refine wpAny_handleBy_nil ?_
  have fl := C.fl
  obtain ⟨k1, k2, k3, oe, vs, T, oT, ts', he, hz, hd, h1, hr⟩ := id fl
  unfold PySem.passOn
  refine wpAny_bind (wpAny_field he hd h1 ?_)
  rw [if_neg (show ¬ ((Value.ref T == Value.none) = true) from by simp)]
  have fin : wpAny (model X.prog X.w) X.A (setFlight (.ref a) X.env.frame) (fun _ s4 => wpAny (model X.prog X.w) X.A (throw (.ref a) : Sem Flow) (SP X pins D) X.xe s4) X.xe s' := by
    rw [hf]
    refine HandSPX.setFlight_upZ fl fun h4 hh4 up4 => wpAny_throw (tk _ _ ?_)
    refine ⟨pins, a, B, sI, σ, H, cls, d, c, n, rfl, ⟨C.I, C.nb, C.up.trans up4, .inr (.inr ?_), C.na, C.os, C.ag⟩, ch, w⟩
    show HandSPX.HeldZ B X.stack a (Zk cls d c) (X.env.frame.getD 0) h4
    rw [hf]
    exact hh4
  first
    | exact wpAny_bind (wpAny_pure (wpAny_bind fin))
    | exact wpAny_bind fin
/-- what the clause 'except x: suite' asks -/
def wCl (K : PySem.W.Frag) (c : Value) (Ws Wr : Ends → WX) : Ends → WX := fun D cls d σ H => ∃ b, PySem.W.exmOne K cls c = some b ∧ (b = true → Ws D cls d σ H) ∧ (b = false → Wr D cls d σ H)
theorem hands_cons (hs : X.stack = X.env :: X.outer) (hf : X.env.frame = some X.env.locals) (hc : Names X x c0) (hsu : SuiteK X nm suite pos' Ws) (r : Hands X hds Wr) : Hands X (.ExceptHandler (some (.Name x np)) nm suite pos' :: hds) (wCl X.K c0 Ws Wr) := by
  intro pins D a B sI σ H cls d c n s' C ch ⟨b, hb1, hyes, hno⟩
  obtain ⟨oe3, vs3, he3, hz3, hd3⟩ := C.fl.there
  have S3 := C.suite hs hf he3 hd3
  refine wpAny_handleBy_cons (codeAny_handlers_test ?_) (by intro q; cases q)
  have LT : PySem.W.Looks (model X.prog X.w) s'.heap (typeOf (.ref a)) cls := fun A Q E s k q => wpAny_typeOf_ref (k _ _ he3) (by rw [hz3.1]; exact q)
  have LM := PySem.W.exm_one (M := model X.prog X.w) (C.J.kIn) LT hb1
  have test : ∀ {Q : Value → Shared → Prop} {E : Value → Shared → Prop}, Q c0 s' → wpAny (model X.prog X.w) (X.A.mark (some (.ref a))) (eval (.Name x np) X.env) Q E s' := fun {Q E} q => by
    obtain ⟨hg, hdbg, hm | ⟨hm, hv, hnn⟩⟩ := hc
    · exact ld_glob (X := X.suite a ((a, oe3) :: (X.pn ++ pins))) S3 hg hm q hdbg
    · exact ld_blt (X := X.suite a ((a, oe3) :: (X.pn ++ pins))) S3 hg hm hv q hnn hdbg
  refine test (LM.here ?_)
  cases b with
  | true => exact hsu pins D a B sI σ H cls d c n s' C ch (hyes rfl)
  | false => exact r pins D a B sI σ H cls d c n s' C ch (hno rfl)
theorem ps_tryK (hs : X.stack = X.env :: X.outer) (hf : X.env.frame = some X.env.locals) {W : Ends → WX}
    (hb : ∀ (V : WX) (pn : List (Addr × Obj)) (xe : Value → Shared → Prop), Tk (X.tr pn xe) V → PassesOwn (model X.prog X.w) X.A X.env xe → PSs (X.tr pn xe) body (tb V))
    (hh : Hands X (h₀ :: hds) W) : PS X (.Try body (h₀ :: hds) [] [] pos) (fun D σ H => tb (W D) D σ H) := by
  refine ⟨fun pins s σ H D I h => ?_⟩
  have ok := I.ok
  have hfr : X.A.frames = some (X.env :: X.outer) := by rw [ok.frames, hs]
  have hL : lx X = X.env.locals := by
    show X.env.frame.getD 0 = _
    rw [hf]
    rfl
  refine wpAny_Try_except ?_
  refine wpAny_mono ((hb (W D) (X.pn ++ pins) (fun e s₁ => wpAny (model X.prog X.w) X.A (noteFrame e X.env) (fun _ s₂ => wpAny (model X.prog X.w) X.A (setFlight e none) (fun _ s₃ =>
    wpAny (model X.prog X.w) X.A (handleBy e X.env (h₀ :: hds)) (SP X pins D) X.xe s₃) X.xe s₂) X.xe s₁) (fun u s' xx => ?_) PassesOwn.looking).run [] s σ H D (I.toTry _) h) (fun f s1 hsp => ?_) (fun e s1 he => he)
  · obtain ⟨pins', a, B, sI, σ', H', cls, d, c, n, rfl, A, ch, w⟩ := xx
    have J : Inv X pins σ' H' sI := A.I.ofTry ok
    have sky' : Sky B (X.env :: X.outer) a (Zk cls d c) X.env.locals s'.heap := by
      have z : Sky B X.stack a (Zk cls d c) (lx X) s'.heap := A.sky
      rw [hs, hL] at z
      exact z
    show wpAny (model X.prog X.w) X.A (noteFrame (.ref a) X.env) _ _ _
    refine L2N.Sky.land Zk.steady hfr hf sky' fun h3 fl3 up3 => ?_
    exact hh pins D a B sI σ' H' cls d c n { s' with heap := h3 } ⟨J, A.nb, A.up.trans up3, by rw [hs]; exact fl3, A.na, A.os, A.ag⟩ ch w
  · cases f with
    | next =>
      obtain ⟨σ', H', J', q⟩ := hsp
      exact wpAny_execs_nil ⟨σ', H', J'.ofTry ok, q⟩
    | brk =>
      obtain ⟨σ', H', J', q⟩ := hsp
      exact ⟨σ', H', J'.ofTry ok, q⟩
    | cont =>
      obtain ⟨σ', H', J', q⟩ := hsp
      exact ⟨σ', H', J'.ofTry ok, q⟩
    | ret u =>
      obtain ⟨v, σ', H', J', r, q⟩ := hsp
      exact ⟨v, σ', H', J'.ofTry ok, r, q⟩
end

/-! ### clauses' suites -/
theorem exh_ok {P : Program} {w : World} {H : Hp} {h : Heap} {a : Addr} {o : Obj} {vs : Array Value} {cls c : Value} {d : Option Addr} (e : h.get? a = some o) (h1 : o.cls = cls) (h2 : o.dict = d) (h3 : o.data = .fields vs) (h4 : vs[2]? = some c) : ObjOk P w H h a (exh a cls d c) :=
  ⟨⟨o, vs, e, h1, h2, h3, h4⟩, ⟨o, e⟩, fun g1 g2 ⟨o', vs', q1, q2, q3, q4, q5⟩ k => ⟨o', vs', k _ q1, q2, q3, q4, q5⟩⟩
theorem hok_track {P : Program} {w : World} {H : Hp} {h : Heap} {a : Addr} {o : HO} (x : HOk P w H h) (na : H a = none) (new : ObjOk P w (upd H a o) h a o) : HOk P w (upd H a o) h := fun b u e => by
  by_cases hb : b = a
  · subst hb
    rw [upd_same] at e
    cases e
    exact new
  · rw [upd_ne hb] at e
    exact (x b u e).stay (fun _ _ _ q => q) (fun c hc => by rw [upd_ne (ne_of_none hc na)]; exact hc) fun c xs hc => by rw [upd_ne (ne_of_none hc na)]; exact hc
section
variable {X : Cx} {pins : List (Addr × Obj)} {σ : St} {H : Hp} {sI s s' : Shared} {B : Heap} {a : Addr} {cls c : Value} {d : Option Addr} {o : Obj} {vs : Array Value}
/-- an object that stood aside comes to be known -/
theorem Inv.track (I : Inv X (pins ++ [(a, o)]) σ H s) (n0 : X.s_0.heap.get? a = none) (hp : ∀ p ∈ X.pn ++ pins, p.1 ≠ a) (h1 : o.cls = cls) (h2 : o.dict = d) (h3 : o.data = .fields vs) (h4 : vs[2]? = some c) : Inv X pins σ (upd H a (exh a cls d c)) s := by
  have P := I.pin (a, o) (List.mem_append_right _ (List.mem_append_right _ List.mem_cons_self))
  obtain ⟨e, na, nL, nF, nc⟩ := P
  have e : s.heap.get? a = some o := e
  have na : H a = none := na
  have nL : a ≠ X.env.locals := nL
  have s0 : ∀ {b : Addr} {u : Obj}, X.s_0.heap.get? b = some u → b ≠ a := fun {b u} q z => by rw [z, n0] at q; cases q
  have ncl : ∀ x cc, X.env.cells.lookup x = some cc → cc ≠ a := fun x cc q z => by
    obtain ⟨v, q2⟩ := I.cell x cc q
    obtain ⟨oc, q3, q4⟩ := q2
    rw [z, e] at q3
    cases q3
    exact nc v q4
  refine ⟨I.ok, I.os, I.bare, ⟨I.base.keep, I.base.slot, fun b u q n hx => by rw [upd_ne (s0 q)]; exact I.base.free b u q n hx, I.base.there, fun b xs q => ?_, fun b u v q => ?_, fun b ps q => ?_⟩, I.loc, I.cell, by rw [upd_ne (Ne.symm nL)]; exact I.free, fun x cc q => by rw [upd_ne (ncl x cc q)]; exact I.freeC x cc q, fun p hm => ?_, hok_track I.hok na (exh_ok e h1 h2 h3 h4), I.len⟩
  · have q2 := I.base.tups b xs q
    rw [upd_ne (ne_of_none q2 na)]
    exact q2
  · have q2 := I.base.frzs b u v q
    rw [upd_ne (ne_of_none q2 na)]
    exact q2
  · obtain ⟨m, q2⟩ := I.base.tbls b ps q
    exact ⟨m, by rw [upd_ne (ne_of_none q2 na)]; exact q2⟩
  · obtain ⟨q1, q2, q3, q4, q5⟩ := I.pin p (by
      rcases List.mem_append.mp hm with z | z
      · exact List.mem_append_left _ z
      · exact List.mem_append_right _ (List.mem_append_left _ z))
    exact ⟨q1, by rw [upd_ne (hp p hm)]; exact q2, q3, q4, q5⟩
/-- the suite's context left, the exception still held -/
theorem Inv.unsuiteK (I : Inv (X.suite a ((a, o) :: (X.pn ++ pins))) [] σ H s) (ok : X.Ok) : Inv X (pins ++ [(a, o)]) σ H s :=
  ⟨ok, I.os, I.bare, I.base, I.loc, I.cell, I.free, I.freeC, fun p hp => I.pin p (List.mem_append_left _ (by
    rcases List.mem_append.mp hp with z | z
    · exact List.mem_cons_of_mem _ (List.mem_append_left _ z)
    · rcases List.mem_append.mp z with z | z
      · exact List.mem_cons_of_mem _ (List.mem_append_right _ z)
      · rw [List.mem_singleton] at z
        rw [z]
        exact List.mem_cons_self)), I.hok, I.len⟩
theorem Cau.none0 (C : Cau X pins a B sI σ H cls d c s') (hex : X.ex = []) : X.s_0.heap.get? a = none := by
  cases e : X.s_0.heap.get? a with
  | none => rfl
  | some u =>
    obtain ⟨o', q⟩ := C.I.base.there a u e (by rw [hex]; simp)
    have z := C.nb a o' q C.nfr
    rw [C.fl.2.1] at z
    cases z
theorem Cau.pne (C : Cau X pins a B sI σ H cls d c s') (hs : X.stack = X.env :: X.outer) (hf : X.env.frame = some X.env.locals) : ∀ p ∈ X.pn ++ pins, p.1 ≠ a := fun p hp z => by
  obtain ⟨q1, q2, q3, q4, q5⟩ := C.I.pin p hp
  rw [z] at q1
  have z2 := C.nb a p.2 q1 C.nfr
  rw [C.fl.2.1] at z2
  cases z2
end
/-- with the exception known behind it -/
def Dx (D : Ends) (i : Nat) (a : Addr) (cls : Value) (d : Option Addr) (c : Value) : Ends := { nx := fun σ H => D.nx (σ.set i none) (upd H a (exh a cls d c)), rt := fun v H => D.rt v (upd H a (exh a cls d c)), bk := fun σ H => D.bk (σ.set i none) (upd H a (exh a cls d c)), ct := fun σ H => D.ct (σ.set i none) (upd H a (exh a cls d c)) }
def wNm (X : Cx) (i : Nat) (suite : List Stmt) (ts : Addr → Obj → List (Addr × Obj) → TS) : Ends → WX := fun D cls d σ H => ∀ (a : Addr) (oe : Obj) (pn : List (Addr × Obj)) (c : Value), H a = none → i < σ.length → Zk cls d c oe → ts a oe pn (Dx D i a cls d c) (σ.set i (some (.ref a))) H
section
variable {X : Cx} {x n : Str} {c0 : Value} {i : Nat} {b₀ : Stmt} {suite : List Stmt} {np pos pos' : Pos} {ts : Addr → Obj → List (Addr × Obj) → TS}
/-- as n: a suite that raises nothing -/
theorem suite_nm (hs : X.stack = X.env :: X.outer) (hf : X.env.frame = some X.env.locals) (hex : X.ex = []) (hN : X.N.Nodup) (hi : X.N[i]? = some n) (hln : X.env.kindOf n = some .local) (hsu : ∀ (a : Addr) (oe : Obj) (pn : List (Addr × Obj)), PSs (X.suite a ((a, oe) :: pn)) (b₀ :: suite) (ts a oe pn)) :
    SuiteK X (some n) (b₀ :: suite) pos' (wNm X i (b₀ :: suite) ts) := by
  intro pins D a B sI σ H cls d c m s' C ch w
  have ok := C.I.ok
  have hloc : Loc X.env.scope n := .inl hln
  have n0 := C.none0 hex
  have hp := C.pne hs hf
  refine codeAny_handlers_suite_as ?_
  have fl := C.fl
  refine HandSPX.lands_againZ fl fun h4 fl4 up4 => ?_
  have C4 := C.moved fl4 up4
  obtain ⟨oe4, vs4, he4, hz4, hd4⟩ := fl4.there
  have S4 := C4.suite hs hf he4 hd4
  refine store_ok (X := X.suite a ((a, oe4) :: (X.pn ++ pins))) (v := .ref a) S4 hN hi hloc rfl (fun s5 S5 => ?_) (.inr hln)
  refine wpAny_mono ((hsu a oe4 (X.pn ++ pins)).run [] s5 _ H _ S5 (w a oe4 _ c C.na (by rw [C.I.len]; exact (List.getElem?_eq_some_iff.mp hi).1) hz4)) (fun f s6 hsp => ?_) (fun _ _ z => False.elim z)
  have end_ : ∀ {σ6 : St} {H6 : Hp} {Q : Shared → Prop}, Inv (X.suite a ((a, oe4) :: (X.pn ++ pins))) [] σ6 H6 s6 → (∀ s7, Inv X pins (σ6.set i none) (upd H6 a (exh a cls d c)) s7 → Q s7) →
      wpAny (model X.prog X.w) X.A (do bindName X.env n .none; unbindBehindTheSuite X.env n pos') (fun _ s7 => Q s7) X.xe s6 := fun {σ6 H6 Q} S6 hq => gone_ok (Inv.unsuiteK S6 ok) hN hi hln fun s7 J => hq s7 (Inv.track J n0 hp hz4.1 hz4.2.1 hd4 (hz4.2.2 _ hd4).2)
  cases f with
  | next =>
    obtain ⟨σ6, H6, S6, q6⟩ := hsp
    exact end_ S6 fun s7 J7 => ⟨_, _, J7, q6⟩
  | brk =>
    obtain ⟨σ6, H6, S6, q6⟩ := hsp
    exact end_ S6 fun s7 J7 => ⟨_, _, J7, q6⟩
  | cont =>
    obtain ⟨σ6, H6, S6, q6⟩ := hsp
    exact end_ S6 fun s7 J7 => ⟨_, _, J7, q6⟩
  | ret u =>
    obtain ⟨v6, σ6, H6, S6, r6, q6⟩ := hsp
    exact end_ S6 fun s7 J7 => ⟨_, _, _, J7, r6, q6⟩
/-- without a name -/
theorem suite_un (hs : X.stack = X.env :: X.outer) (hf : X.env.frame = some X.env.locals) (hsu : ∀ (a : Addr) (oe : Obj) (pn : List (Addr × Obj)), PSs (X.suite a ((a, oe) :: pn)) (b₀ :: suite) (ts a oe pn)) :
    SuiteK X none (b₀ :: suite) pos' (fun D cls d σ H => ∀ (a : Addr) (oe : Obj) (pn : List (Addr × Obj)), H a = none → ts a oe pn D σ H) := by
  intro pins D a B sI σ H cls d c m s' C ch w
  have ok := C.I.ok
  refine codeAny_handlers_suite ?_
  have fl := C.fl
  refine HandSPX.lands_againZ fl fun h4 fl4 up4 => ?_
  have C4 := C.moved fl4 up4
  obtain ⟨oe4, vs4, he4, hz4, hd4⟩ := fl4.there
  have S4 := C4.suite hs hf he4 hd4
  refine wpAny_mono ((hsu a oe4 (X.pn ++ pins)).run [] _ _ H _ S4 (w a oe4 _ C.na)) (fun f s6 hsp => ?_) (fun _ _ z => False.elim z)
  cases f with
  | next =>
    obtain ⟨σ6, H6, S6, q6⟩ := hsp
    exact ⟨_, _, S6.unsuite ok, q6⟩
  | brk =>
    obtain ⟨σ6, H6, S6, q6⟩ := hsp
    exact ⟨_, _, S6.unsuite ok, q6⟩
  | cont =>
    obtain ⟨σ6, H6, S6, q6⟩ := hsp
    exact ⟨_, _, S6.unsuite ok, q6⟩
  | ret u =>
    obtain ⟨v6, σ6, H6, S6, r6, q6⟩ := hsp
    exact ⟨_, _, _, S6.unsuite ok, r6, q6⟩
end

/-! ### a clause that raises anew: raise x from n -/
theorem HC.keeps {h h' : Heap} {v : Addr} {n : Nat} {c : Value} (k : ∀ b o, h.get? b = some o → h'.get? b = some o) (x : HC h v n c) : HC h' v n c := by
  induction x with
  | nil => exact .nil
  | cons h1 d1 c1 ne _ ih => exact .cons (k _ _ h1) d1 c1 ne ih
section
variable {X : Cx} {pins : List (Addr × Obj)} {σ : St} {H : Hp} {s : Shared} {Q : Value → Shared → Prop} {E : Value → Shared → Prop}
theorem ld_var {i : Nat} {x : Str} {v : V} {pos : Pos} (I : Inv X pins σ H s) (hN : X.N[i]? = some x) (hv : Vis X.env.scope x) (e : σ[i]? = some (some v)) (h : ∀ u, RelV v u → Q u s) (hd : (x == ("__debug__" : Str)) = false) (hcd : (x == ("__classdict__" : Str)) = false) : wpAny (model X.prog X.w) X.A (eval (.Name x pos) X.env) Q E s := by
  obtain ⟨m, hn, hl⟩ := I.loc
  obtain ⟨u, r, l⟩ := hl i x v hN e hv
  have fin : Q u s := h u r
  rcases l with ⟨hk, hm⟩ | ⟨hk, c, hc, hcell⟩
  · exact wpAny_Name (wpAny_loadName_local I.ok.kind hk hn hm fin) hd
  · rcases hk with hk | hk
    · exact wpAny_Name (wpAny_loadName_cell I.ok.kind hk hc hcell fin) hd
    · exact wpAny_Name (wpAny_loadName_free I.ok.kind hk hc hcell fin hcd) hd
end
section
variable {Y : Cx} {a : Addr} {oe : Obj} {vs : Array Value} {cls c : Value} {d : Option Addr} {i : Nat} {n : Str} {e : Expr} {t : St → Hp → XK → Prop} {W : WX} {np pos : Pos}
theorem ps_from (hp : (a, oe) ∈ Y.pn) (hh : Y.A.handled = some (.ref a)) (hz : Zk cls d c oe) (hd0 : oe.data = .fields vs) (hcl : PySem.W.subIn Y.K cls (.type "BaseException") = some true) (hN : Y.N[i]? = some n) (hv : Vis Y.env.scope n) (hdn : (n == ("__debug__" : Str)) = false) (hcn : (n == ("__classdict__" : Str)) = false)
    (tk : ∀ pins a2 sI σ H cls2 d2 s', Air Y pins a2 (PySem.W.hideAll sI.heap (frs Y.stack)) sI σ H cls2 d2 (.ref a) s' → W cls2 d2 σ H → Y.xe (.ref a2) s') (he : PMkK Y e t) :
    PS Y (.Raise (some e) (some (.Name n np)) pos) (fun _ σ H => t σ H fun cls2 d2 H' => σ[i]? = some (some (.ref a)) ∧ (∃ m, Chn H' m c) ∧ W cls2 d2 σ H') := by
  refine ⟨fun pins s σ H D I h => ?_⟩
  show wpAny _ _ (do standAt pos; raiseStmt Y.env (some (do let v ← eval e Y.env; standAt pos; pure v)) (some (do let v ← eval (.Name n np) Y.env; standAt pos; pure v))) _ _ _
  obtain ⟨s1z, c2⟩ := hz.2.2 _ hd0
  have pm := he pins s σ H _ I h
  have main : wpAny (model Y.prog Y.w) Y.A (eval e Y.env) (fun u s₁ => ∃ (m : Nat) (a2 : Addr) (oe2 : Obj) (vs2 : Array Value) (cls2 : Value), u = .ref a2 ∧ s₁.heap.get? a2 = some oe2 ∧ oe2.cls = cls2 ∧ oe2.data = .fields vs2 ∧ vs2[1]? = some .none ∧ vs2.size = 6 ∧ HC s₁.heap a2 (m + 1) (.ref a) ∧
      PySem.W.Looks (model Y.prog Y.w) s₁.heap (isSubtype cls2 (.type "BaseException")) true ∧ PySem.W.Looks (model Y.prog Y.w) (fromH s₁.heap a2 (.ref a)) (typeOf cls2) (.type "type") ∧ PySem.W.Looks (model Y.prog Y.w) s₁.heap (isInstance (.ref a) (.type "BaseException")) true ∧
      wpAny (model Y.prog Y.w) Y.A (do let v ← eval (.Name n np) Y.env; standAt pos; pure v) (fun u2 s2 => u2 = .ref a ∧ s2 = s₁) Y.xe s₁ ∧ Y.xe (.ref a2) { s₁ with heap := (fromH s₁.heap a2 (.ref a)).update a2 (Obj.mapFields (·.setIfInBounds 2 (.ref a))) }) Y.xe s := by
    refine wpAny_mono pm (fun u s1 hu => ?_) fun _ _ x => x
    obtain ⟨a2, oe2, vs2, sI, H', cls2, d2, rfl, J, k, hne, ha, hz2, hd2, h1, na, os, ag, r, q0, ⟨m, ch⟩, q⟩ := hu
    obtain ⟨z6, _⟩ := hz2.2.2 _ hd2
    have P1 := (J.pin (a, oe) (List.mem_append_left _ hp)).1
    have nap : a ≠ a2 := fun z => by
      rw [← z] at hne
      have P1 : sI.heap.get? a = some oe := P1
      rw [P1] at hne
      cases hne
    have k4 : ∀ b u, sI.heap.get? b = some u → (fromH s1.heap a2 (.ref a)).get? b = some u := fun b u z => by
      have nab : a2 ≠ b := fun y => by
        rw [← y, hne] at z
        cases z
      rw [fromH_ne nab]
      exact k b u z
    obtain ⟨r1, _⟩ := r (model Y.prog Y.w) s1.heap (J.kIn.keeps k)
    obtain ⟨_, r2⟩ := r (model Y.prog Y.w) (fromH s1.heap a2 (.ref a)) (J.kIn.keeps k4)
    have LA : PySem.W.Looks (model Y.prog Y.w) s1.heap (typeOf (.ref a)) cls := fun A Q E s k' q => wpAny_typeOf_ref (k' _ _ (k _ _ P1)) (by rw [hz.1]; exact q)
    have J1 : Inv Y pins σ H' s1 := J.call' (ch := []) os (Un.kept k) (J.hok.kept k) ag (fun _ z => nomatch z)
    have hc : HC s1.heap a2 (m + 1) (.ref a) := .cons (k _ _ P1) hd0 c2 nap ((ch.hc J.hok na).keeps k)
    obtain ⟨ha4, hd4⟩ := fromH_at (c := .ref a) ha hd2
    refine ⟨m, a2, oe2, vs2, cls2, rfl, ha, hz2.1, hd2, h1, z6, hc, r1, r2, LA.andThen (PySem.W.looks_subIn J1.kIn hcl), wpAny_bind (ld_var J1 hN hv q0 (fun u ru => wpAny_bind (wpAny_standAt (wpAny_pure ⟨ru, rfl⟩))) hdn hcn), ?_⟩
    refine tk pins a2 sI σ H' cls2 d2 _ (Air.new (oe := _) (vs := _) J (fun b u z => ?_) hne (Heap.get?_update_self _ ha4 (Obj.isFreed_of_fields (Obj.data_mapFields hd4 _))) ⟨by rw [Obj.cls_mapFields, Obj.cls_mapFields, Obj.cls_mapFields]; exact hz2.1, by rw [HandSPX.dict_mapFields, HandSPX.dict_mapFields, HandSPX.dict_mapFields]; exact hz2.2.1, fun ws hw => ?_⟩ (Obj.data_mapFields hd4 _) ?_ na os ag) q
    · have nab : a2 ≠ b := fun y => by
        rw [← y, hne] at z
        cases z
      show ((fromH s1.heap a2 (.ref a)).update a2 (Obj.mapFields (·.setIfInBounds 2 (.ref a)))).get? b = some u
      rw [Heap.get?_update_other _ _ nab]
      exact k4 b u z
    · rw [Obj.data_mapFields hd4 _] at hw
      have e2 := Data.fields.inj hw
      rw [← e2]
      refine ⟨by rw [Array.size_setIfInBounds, Array.size_setIfInBounds, Array.size_setIfInBounds]; exact z6, ?_⟩
      rw [Array.getElem?_setIfInBounds_self_of_lt (by rw [Array.size_setIfInBounds, Array.size_setIfInBounds]; omega)]
    · rw [Array.getElem?_setIfInBounds_ne (by decide), Array.getElem?_setIfInBounds_ne (by decide), Array.getElem?_setIfInBounds_ne (by decide)]
      exact h1
  exact wpAny_bind (wpAny_standAt (raise_from hh (wpAny_bind (wpAny_mono main (fun u s1 hu => wpAny_bind (wpAny_standAt (wpAny_pure hu))) fun _ _ x => x))))
end

/-! ### .. and the whole clause -/
/-- what is left of the suite that let one out: its name goes, it flies on -/
theorem suite_raised {X : Cx} {W : WX} {n : Str} {pos : Pos} {a a2 : Addr} {B : Heap} {σ : St} {H : Hp} {cls2 c2 : Value} {d2 : Option Addr} {k : Nat} {s3 : Shared} {m : Str → Option Value} (hs : X.stack = X.env :: X.outer) (hf : X.env.frame = some X.env.locals) (hln : X.env.kindOf n = some .local)
    (hcs : (X.env.scope.kind == .class || (X.env.scope.kind == .module && X.env.locals != X.env.globals)) = false) (tk : TkL X W) (A : Lvs X a2 B H cls2 d2 c2 s3) (ch : Chn H k c2) (w : W cls2 d2 σ H) (hn : s3.heap.Ns X.env.locals m) :
    AsSuiteRaised (model X.prog X.w) (X.A.mark (some (.ref a))) X.env n pos (notedBy (model X.prog X.w) (X.A.mark (some (.ref a))) X.env fun x s' => cameBackBy (model X.prog X.w) X.A X.env X.xe x s') (.ref a2) s3 := by
  have hfr : (X.A.mark (some (.ref a))).frames = some (X.env :: X.outer) := by
    show X.A.frames = _
    rw [A.fr, hs]
  have hL : lx X = X.env.locals := by
    show X.env.frame.getD 0 = _
    rw [hf]
    rfl
  have sky : Sky B (X.env :: X.outer) a2 (Zk cls2 d2 c2) X.env.locals s3.heap := by
    have z := A.sky
    rw [hs, hL] at z
    exact z
  show wpAny _ _ (noteFrame (.ref a2) X.env) _ _ _
  refine Sky.note Zk.steady hfr hf sky fun h1 hh1 up1 => ?_
  have hBL : B.get? X.env.locals = none := by
    obtain ⟨_, ⟨L', _, hf', hb', _⟩, _⟩ := hh1.2.2.1
    rw [hf] at hf'
    rw [Option.some.inj hf']
    exact hb'
  have hn1 := ns_upTo up1 hn
  refine wpAny_nameGoes_keeps hln hn1 hcs fun h2 v hn2 sb2 => ?_
  have hh2 := held_but hh1 hn1 sb2 hn2 hBL
  obtain ⟨b1, b0, f1, oe, vs, T, oT, ts, he, hz, hd, e1, hnT, hTe, hT, hdT, h3⟩ := id hh2
  unfold PySem.passOn
  refine wpAny_bind (wpAny_field he hd e1 ?_)
  rw [if_neg (show ¬ ((Value.ref T == Value.none) = true) from by simp)]
  rw [hf]
  refine wpAny_bind (HandSPX.setFlight_onZ hh2 fun h4 hh4 up4 => wpAny_throw ?_)
  show wpAny _ _ (noteFrame (.ref a2) X.env) _ _ _
  refine HandSPX.againZ hf hh4.2.2.2 ?_
  obtain ⟨_, _, _, oe4, vs4, T4, oT4, ts4, he4, hz4, hd4, e4, _⟩ := id hh4
  show cameBackBy (model X.prog X.w) X.A X.env X.xe (.ref a2) _
  unfold cameBackBy
  refine wpAny_bind (wpAny_field he4 hd4 e4 ?_)
  rw [if_neg (show ¬ ((Value.ref T4 == Value.none) = true) from by simp)]
  rw [hf]
  refine HandSPX.setFlight_onZ hh4 fun h5 hh5 up5 => tk _ _ ?_
  have neL : ∀ b ∈ X.fs, b ≠ X.env.locals := fun b hb z => by
    obtain ⟨o, q, _⟩ := A.fu b hb
    have h1 := Heap.lt_size q
    rw [z] at h1
    exact absurd (Nat.lt_of_lt_of_le h1 A.ab) (Nat.lt_irrefl _)
  refine ⟨a2, B, σ, H, cls2, d2, c2, k, rfl, ⟨A.fr, A.ab, A.fu, .inr (.inr ?_), A.hok, ⟨A.ub.keep, fun b o e hb => ?_, A.ub.free, A.ub.there, A.ub.tups, A.ub.frzs, A.ub.tbls⟩, A.na, A.os, A.ag⟩, ch, w⟩
  · rw [hL, hs]
    exact hh5
  · obtain ⟨o₀, e₀, hnf⟩ := A.fu b hb
    rw [e] at e₀; cases e₀
    obtain ⟨sl, q1⟩ := A.ub.slot b o e hb
    obtain ⟨sl1, q2⟩ := up1 b _ q1 hnf
    have q3 := (sb2.2 b (neL b hb)).trans q2
    obtain ⟨sl4, q4⟩ := up4 b _ q3 hnf
    obtain ⟨sl5, q5⟩ := up5 b _ q4 hnf
    exact ⟨sl5, q5⟩

theorem Sky.fresh {B : Heap} {l : List Env} {a L : Addr} {Z : Obj → Prop} {h : Heap} (x : Sky B l a Z L h) : B.get? a = none := by
  rcases x with x | x | x
  · exact x.2.1
  · exact x.2.1
  · exact x.2.1
/-- what a clause 'raise e from n' asks -/
def wFrom (K : PySem.W.Frag) (i : Nat) (t : St → Hp → XK → Prop) (W : WX) : Ends → WX := fun _ cls d σ H => PySem.W.subIn K cls (.type "BaseException") = some true ∧ ∀ (a : Addr) (c : Value) (m : Nat), H a = none → i < σ.length → Chn H m c →
  t (σ.set i (some (.ref a))) H fun cls2 d2 H' => (σ.set i (some (.ref a)))[i]? = some (some (.ref a)) ∧ (∃ m, Chn H' m c) ∧ (∃ m, Chn H' m c) ∧ (H' a = none → W cls2 d2 (σ.set i (some (.ref a))) (upd H' a (exh a cls d c)))
theorem suite_from {X : Cx} {W : WX} {n : Str} {i : Nat} {e : Expr} {np p2 pos' : Pos} {t : St → Hp → XK → Prop} (hs : X.stack = X.env :: X.outer) (hf : X.env.frame = some X.env.locals) (hex : X.ex = []) (hN : X.N.Nodup) (hi : X.N[i]? = some n) (hln : X.env.kindOf n = some .local) (hdn : (n == ("__debug__" : Str)) = false) (hcn : (n == ("__classdict__" : Str)) = false) (tk : TkL X W)
    (he : ∀ (a : Addr) (oe : Obj) (pn : List (Addr × Obj)) (xe : Value → Shared → Prop), PMkK ((X.suite a ((a, oe) :: pn)).wish xe) e t) :
    SuiteK X (some n) [.Raise (some e) (some (.Name n np)) p2] pos' (wFrom X.K i t W) := by
  intro pins D a B0 sI0 σ H cls d c m s' C ch ⟨hcl, w⟩
  have ok := C.I.ok
  have hloc : Loc X.env.scope n := .inl hln
  have n0 := C.none0 hex
  have hcs : (X.env.scope.kind == .class || (X.env.scope.kind == .module && X.env.locals != X.env.globals)) = false := by rw [ok.kind]; rfl
  have nfr := C.nfr
  refine codeAny_handlers_suite_as ?_
  have fl := C.fl
  refine HandSPX.lands_againZ fl fun h4 fl4 up4 => ?_
  have C4 := C.moved fl4 up4
  obtain ⟨oe4, vs4, he4, hz4, hd4⟩ := fl4.there
  have S4 := C4.suite hs hf he4 hd4
  refine store_ok (X := X.suite a ((a, oe4) :: (X.pn ++ pins))) (v := .ref a) S4 hN hi hloc rfl (fun s5 S5 => ?_) (.inr hln)
  have hil : i < σ.length := by
    have := C.I.len
    rw [this]
    exact (List.getElem?_eq_some_iff.mp hi).1
  generalize hE : (fun x s3 => AsSuiteRaised (model X.prog X.w) (X.A.mark (some (.ref a))) X.env n pos' (notedBy (model X.prog X.w) (X.A.mark (some (.ref a))) X.env fun x s' => cameBackBy (model X.prog X.w) X.A X.env X.xe x s') x s3) = E'
  have S6 : Inv ((X.suite a ((a, oe4) :: (X.pn ++ pins))).wish E') [] (σ.set i (some (.ref a))) H s5 := S5.wish E'
  have ps := pss_cons (ps_from (Y := (X.suite a ((a, oe4) :: (X.pn ++ pins))).wish E') (n := n) (i := i) (np := np) (pos := p2) (W := fun cls2 d2 σ' H' => (∃ m, Chn H' m c) ∧ (H' a = none → W cls2 d2 σ' (upd H' a (exh a cls d c)))) List.mem_cons_self rfl hz4 hd4 hcl hi (.inl hln) hdn hcn ?_ (he a oe4 (X.pn ++ pins) E')) (pss_nil)
  · have run := ps.run [] s5 (σ.set i (some (.ref a))) H { nx := fun _ _ => False, rt := fun _ _ => False, bk := fun _ _ => False, ct := fun _ _ => False } S6 (w a c m C.na hil ch)
    refine wpAny_mono run (fun f s6 hsp => ?_) (fun x s6 hx => ?_)
    · cases f with
      | next => obtain ⟨_, _, _, q⟩ := hsp; exact q.elim
      | brk => obtain ⟨_, _, _, q⟩ := hsp; exact q.elim
      | cont => obtain ⟨_, _, _, q⟩ := hsp; exact q.elim
      | ret u => obtain ⟨_, _, _, _, _, q⟩ := hsp; exact q.elim
    · have hx : E' x s6 := hx
      rw [← hE] at hx
      exact hx
  · rintro pins2 a2 sI σ' H' cls2 d2 s3 A ⟨⟨m2, ch2⟩, w2⟩
    show E' (.ref a2) s3
    rw [← hE]
    have P := A.I.pin (a, oe4) (List.mem_append_left _ List.mem_cons_self)
    obtain ⟨e1, na1, _⟩ := P
    have e1 : sI.heap.get? a = some oe4 := e1
    have na1 : H' a = none := na1
    have eB : (PySem.W.hideAll sI.heap (frs X.stack)).get? a = some oe4 := PySem.W.hideAll_get _ e1 nfr
    have naa : a ≠ a2 := fun z => by
      have q := Sky.fresh A.sky
      rw [← z] at q
      have q : (PySem.W.hideAll sI.heap (frs X.stack)).get? a = none := q
      rw [eB] at q
      cases q
    have L := A.lvs (X := (X.suite a ((a, oe4) :: (X.pn ++ pins))).wish E') hs hex
    obtain ⟨mm, hns, _⟩ := id A.I.loc
    refine suite_raised (W := W) (c2 := .ref a) (k := m2 + 1) (H := upd H' a (exh a cls d c)) (σ := σ') (m := mm) hs hf hln hcs tk ⟨L.fr, L.ab, L.fu, L.sky, hok_track L.hok na1 (exh_ok eB hz4.1 hz4.2.1 hd4 (hz4.2.2 _ hd4).2), ⟨L.ub.keep, L.ub.slot, fun b o q n => ?_, L.ub.there, fun b xs q => ?_, fun b u v q => ?_, fun b ps q => ?_⟩, ?_, L.os, L.ag⟩ (.cons upd_same (ch2.mono fun b cls' d' c' q => by rw [upd_ne (ne_of_none q na1)]; exact q)) (w2 na1) (ns_upTo A.up hns)
    · rw [upd_ne (fun z => by
        have q : X.s_0.heap.get? b = some o := q
        rw [z, n0] at q
        cases q)]
      exact L.ub.free b o q n
    · have q2 := L.ub.tups b xs q
      rw [upd_ne (ne_of_none q2 na1)]
      exact q2
    · have q2 := L.ub.frzs b u v q
      rw [upd_ne (ne_of_none q2 na1)]
      exact q2
    · obtain ⟨mr, q2⟩ := L.ub.tbls b ps q
      exact ⟨mr, by rw [upd_ne (ne_of_none q2 na1)]; exact q2⟩
    · rw [upd_ne (Ne.symm naa)]
      exact A.na
end Dl

set_option maxHeartbeats 2000000
namespace PySem
namespace DlX
section
variable {M : Model} {A : Around} {E : Value → Shared → Prop} {s : Shared} {env : Env}
/-- behind a comprehension's block; what it lets out flies over the same frame -/
def compPostF (M : Model) (A : Around) (E : Value → Shared → Prop) (env : Env) (use : Option (Value → Sem Unit)) (Q : Value → Shared → Prop) (acc : Value) (C : Addr) (r : Result) (s' : Shared) : Prop :=
  match r, use with
  | .ok _, none => ∃ m, s'.heap.Ns C m ∧ ∀ h', Heap.SameBut C s'.heap h' → Q acc { s' with heap := h' }
  | .ok _, some u => wpAny M A (u acc) (fun _ s'' => ∃ m, s''.heap.Ns C m ∧ ∀ h', Heap.SameBut C s''.heap h' → Q .none { s'' with heap := h' }) E s'
  | .error x, _ => ∃ m, s'.heap.Ns C m ∧ ∀ h' m', h'.Ns C m' → Heap.SameBut C s'.heap h' → ∀ cenv : Env, cenv.frame = env.frame → wpAny M A (passOn "comprehension.variables-let-go" x cenv : Sem Value) (fun _ _ => False) E { s' with heap := h' }
theorem wpAny_compF {e : Expr} {scope : Scope} {pos : Pos} {newAcc first : Sem Value} {g : Comprehension} {gs : List Comprehension} {cl : List (Str × Addr)} {use : Option (Value → Sem Unit)} {Q : Value → Shared → Prop}
    (hcl : clausesOf e = g :: gs) (hs : ∀ x, foldedSetIterable g.iter env x = pure x) (hclos : closureFor scope env = pure cl)
    (hkind : scope.kind = .function) (hnames : ∀ x ∈ scope.names, x.2 = .local → scope.names.lookup x.1 = some .local)
    (h : wpAny M A first (fun x s₁ => wpAny M A (pyIter x) (fun it s₂ => wpAny M A newAcc (fun acc s₃ =>
      wpAny M A (newFunctionEnv scope env.globals cl [] env.qual none .none (some env)) (fun cenv s₄ => cenv.frame = env.frame ∧
        codeAny M A (.compStart e 0 it acc { cenv with scope := relabel scope env }) (compPostF M A E env use Q acc cenv.locals) s₄) E s₃) E s₂) E s₁) E s) :
    wpAny M A (comprehension e scope env pos newAcc false first use) Q E s := by
  unfold comprehension
  rw [hclos, hcl]
  refine wpAny_bind (wpAny_mono h (fun x s₁ h₁ => wpAny_bind (wpAny_standAt (wpAny_bind (wpAny_of_eq (hs x) (wpAny_bind (wpAny_holding (wpAny_mono h₁ (fun it s₂ h₂ =>
    wpAny_standIf (wpAny_bind (wpAny_mono h₂ (fun acc s₃ h₃ => wpAny_bind (wpAny_pure (wpAny_bind (wpAny_mono h₃ (fun cenv s₄ h₄ => ?_) fun _ _ h' => h')))) fun _ _ h' => h')))
      fun _ _ h' => h'))))))) fun _ _ h' => h')
  dsimp only
  obtain ⟨hfr, h₄⟩ := h₄
  have hv : ∀ x ∈ (scope.names.filter fun x => (x.2 == .local || x.2 == .cell) && x.1 != (".0" : Str)).reverse, x.2 = .local →
      Env.kindOf { cenv with scope := relabel scope env } x.1 = some .local := fun x hx hl => lookup_relabel_local (hnames x (List.mem_filter.mp (List.mem_reverse.mp hx)).1 hl)
  have hv' : ∀ x ∈ (scope.names.filter fun x => (x.2 == .local || x.2 == .cell) && x.1 != (".0" : Str)).reverse.drop 1 ++ (scope.names.filter fun x => (x.2 == .local || x.2 == .cell) && x.1 != (".0" : Str)).reverse.take 1,
      x.2 = .local → Env.kindOf { cenv with scope := relabel scope env } x.1 = some .local := fun x hx hl => by
    rcases List.mem_append.mp hx with h1 | h1
    · exact hv x (List.mem_of_mem_drop h1) hl
    · exact hv x (List.mem_of_mem_take h1) hl
  refine wpAny_holding (wpAny_bind (wpAny_attempt (wpAny_holding (wpAny_run (codeAny_mono h₄ fun r s' hr => ?_)))))
  cases r with
  | ok f =>
    cases use with
    | none =>
      obtain ⟨m, hn, hr⟩ := hr
      exact wpAny_bind (wpAny_holding (wpAny_comp_letGo (cenv := { cenv with scope := relabel scope env }) hkind _ s' m hv hn fun h' m' _ hs' => wpAny_pure (hr h' hs')))
    | some u =>
      refine wpAny_bind (wpAny_rule (wpAny_bind (wpAny_holding (wpAny_mono hr (fun _ s'' hr' => ?_) fun _ _ h' => h'))))
      obtain ⟨m, hn, hr'⟩ := hr'
      exact wpAny_bind (wpAny_comp_letGo (cenv := { cenv with scope := relabel scope env }) hkind _ s'' m hv' hn fun h' m' _ hs' => wpAny_pure (hr' h' hs'))
  | error x =>
    have hr' : ∃ m, s'.heap.Ns cenv.locals m ∧ ∀ h' m', h'.Ns cenv.locals m' → Heap.SameBut cenv.locals s'.heap h' → ∀ cenv' : Env, cenv'.frame = env.frame → wpAny M A (passOn "comprehension.variables-let-go" x cenv' : Sem Value) (fun _ _ => False) E { s' with heap := h' } := by cases use <;> exact hr
    obtain ⟨m, hn, hr⟩ := hr'
    exact wpAny_bind (wpAny_holding (wpAny_comp_letGo (cenv := { cenv with scope := relabel scope env }) hkind _ s' m hv hn fun h' m' hn' hs' => wpAny_mono (hr h' m' hn' hs' _ hfr) (fun _ _ f => f.elim) fun _ _ y => y))
end
end DlX
end PySem
namespace Dl
open PySem PySem.Spec L2
open PyProof.Rows hiding St
/-! ### a comprehension whose element may raise -/
theorem noteFrame_eq {e : Value} {e1 e2 : Env} (h : e1.frame = e2.frame) : noteFrame e e1 = noteFrame e e2 := by
  unfold noteFrame PySem.frameOf
  rw [h]
theorem hide_get {h : Heap} {C b : Addr} {o : Obj} (e : h.get? b = some o) (n : b ≠ C) : (PySem.W.hideAll h [C]).get? b = some o := PySem.W.hideAll_get _ e (by simpa using n)
theorem hide_ne {h : Heap} {C b : Addr} {o : Obj} (e : (PySem.W.hideAll h [C]).get? b = some o) : b ≠ C := fun z => by
  rw [z, PySem.W.hideAll_none [C] List.mem_cons_self] at e
  cases e
theorem hide_none {h : Heap} {C b : Addr} (e : h.get? b = none) : (PySem.W.hideAll h [C]).get? b = none := by
  cases q : (PySem.W.hideAll h [C]).get? b with
  | none => rfl
  | some o =>
    have z := PySem.W.of_hideAll _ q
    rw [e] at z
    cases z
/-- B, h are the same but for C's -/
theorem held_hide {h h' B : Heap} {l : List Env} {a C L2 : Addr} {Z : Obj → Prop} {m m' : Str → Option Value} (x : HandSPX.HeldZ B l a Z L2 h) (hn : h.Ns C m) (hs : Heap.SameBut C h h') (hn' : h'.Ns C m') : HandSPX.HeldZ (PySem.W.hideAll B [C]) l a Z L2 h' := by
  obtain ⟨x1, x2, x3, oe, vs, T, oT, ts, he, hz, hd, h1, hnT, hTe, hT, hdT, h3⟩ := x
  have y : HandSPX.HeldZ (PySem.W.hideAll B [C]) l a Z L2 h := ⟨fun b o e => x1 b o (PySem.W.of_hideAll _ e), hide_none x2, funFrames_none x3 fun b hb => by
      obtain ⟨q, _⟩ := x3.mem hb
      exact hide_none q, oe, vs, T, oT, ts, he, hz, hd, h1, hide_none hnT, hTe, hT, hdT, h3⟩
  exact held_but y hn hs hn' (PySem.W.hideAll_none [C] List.mem_cons_self)
section
variable {X : Cx}
theorem lc_coreX {pins : List (Addr × Obj)} {s : Shared} {σ : St} {H : Hp} {Q : VK} {elt tg iter : Expr} {ifs : List Expr} {scope : Scope} {own : List (Str × Nat)} {pos pos' : Pos} {wi : TI} {g : TG} {tt : TT} {te : TE} {use : Option (Value → Sem Unit)} {Qf : Value → Shared → Prop} {W Wb : WX}
    (hc : X.calm = true) (hst : X.stack = X.env :: X.outer) (hfm : X.env.frame = some X.env.locals) (hN : X.N.Nodup) (I : Inv X pins σ H s) (hi : PI X tg iter wi) (ok : BlkOk X.N X.env.scope scope own)
    (hg : ∀ (s : Shared) (H : Hp) (C : Addr) (cl : List (Str × Addr)) (fp : List Addr), PG (X.blk s H scope (compEnvC scope cl C X.env) fp) tg g) (ht : ∀ (s : Shared) (H : Hp) (C : Addr) (cl : List (Str × Addr)) (fp : List Addr), PTs (X.blk s H scope (compEnvC scope cl C X.env) fp) ifs tt)
    (tk : Tk X W) (hW : ∀ cls d σ2 H2, Wb cls d σ2 H2 → W cls d σ H2)
    (he : ∀ (s : Shared) (H : Hp) (C : Addr) (cl : List (Str × Addr)) (fp : List Addr) (E : Value → Shared → Prop), Tk ((X.blk s H scope (compEnvC scope cl C X.env) fp).wish E) Wb → PE ((X.blk s H scope (compEnvC scope cl C X.env) fp).wish E) elt te) (hs : ∀ x, foldedSetIterable iter X.env x = pure x)
    (h : tLc wi g tt te (own.map (·.2)) σ H Q)
    (hRR : ∀ D C s' m H', Inv X pins σ H' s' → Q (.ref D) H' → s'.heap.Ns C m → FpOk X pins H' C → PySem.DlX.compPostF (model X.prog X.w) X.A X.xe X.env use Qf (.ref D) C (.ok .next) s') :
    wpAny (model X.prog X.w) X.A (comprehension (.ListComp elt [⟨tg, iter, ifs, 0⟩] scope pos) scope X.env pos' (newList []) false (eval iter X.env) use) Qf X.xe s := by
  have hfree : ∀ y ∈ scope.names, y.2 = .free → ∃ c, X.env.cells.lookup y.1 = some c := fun y hy e => by
    rcases ok.free y hy e with k | k
    · exact I.ok.has _ (.inl k)
    · exact I.ok.has _ (.inr k)
  refine PySem.DlX.wpAny_compF (use := use) rfl hs (closure_ok hfree) ok.kind (fun y hy e => by rw [ok.uniq y hy, e])
    (thn (hi.run pins s σ H _ I h) fun xv s1 hx => thn hx fun itv s2 h2 => ?_)
  obtain ⟨it, fp, tn, J, H2, e, I2, T, st2, f2, q⟩ := h2
  subst e
  refine wpAny_newObj_type (newEnv_comp ⟨rfl, ?_⟩) (by show 0 ≤ sizeLine; decide)
  generalize hD : s2.heap.objs.size = D
  have hDn : H2 D = none := I2.hok.fresh (Nat.le_of_eq hD)
  obtain ⟨Wt, ⟨m0, w0⟩, turn⟩ := q D hDn
  generalize hs3 : ({ s2 with heap := s2.heap.push { cls := .type "list", data := .seq ([] : List Value).toArray } } : Shared) = s3
  have I3 : Inv X pins σ (upd H2 D (.lst [])) s3 := by
    rw [← hs3]
    refine I2.laid (t' := s2.toks) (fun b o e => Heap.get?_push_of_some _ e) (Nat.le_of_eq hD) ⟨Nat.zero_le _, [], 0, .nil, ?_⟩
    rw [← hD]
    exact Heap.get?_push_size _ rfl
  have h3 : s3.heap = s2.heap.push { cls := .type "list", data := .seq ([] : List Value).toArray } := by rw [← hs3]
  have sz : ∀ b ∈ fp, b < s2.heap.objs.size := fun b hb => by
    obtain ⟨o, e, _⟩ := T.obj _ _ st2 b hb
    exact Heap.lt_size e
  have f3 : ∀ b ∈ fp, FpOk X pins (upd H2 D (.lst [])) b ∧ b < s3.heap.objs.size := fun b hb => by
    have hlt := sz b hb
    refine ⟨⟨?_, (f2 b hb).2⟩, by rw [h3, Heap.size_push]; exact Nat.lt_succ_of_lt hlt⟩
    rw [upd_ne (by rw [← hD]; exact Nat.ne_of_lt hlt)]
    exact (f2 b hb).1
  have st3 : tn 0 s3.heap := T.keep _ _ _ st2 fun b _ o e => by rw [h3]; exact Heap.get?_push_of_some _ e
  have I4 := block_start I3 ok hN f3
  have pg := hg s3 (upd H2 D (.lst [])) s3.heap.objs.size (cellsFrom (s3.heap.objs.size + 1) scope.names (cloFrom X.env.cells scope.names [])) fp
  have pt := ht s3 (upd H2 D (.lst [])) s3.heap.objs.size (cellsFrom (s3.heap.objs.size + 1) scope.names (cloFrom X.env.cells scope.names [])) fp
  have pe0 := he s3 (upd H2 D (.lst [])) s3.heap.objs.size (cellsFrom (s3.heap.objs.size + 1) scope.names (cloFrom X.env.cells scope.names [])) fp
  show codeAny _ _ (.compStart (.ListComp elt [⟨tg, iter, ifs, 0⟩] scope pos) 0 (.ref it) (.ref D) (compEnvC scope (cellsFrom (s3.heap.objs.size + 1) scope.names (cloFrom X.env.cells scope.names [])) s3.heap.objs.size X.env)) (PySem.DlX.compPostF (model X.prog X.w) X.A X.xe X.env use Qf (.ref D) s3.heap.objs.size) { s3 with heap := pushCells (s3.heap.push { cls := .type "dict", data := .dict #[] }) scope.names }
  have nfp : ∀ b ∈ fp, (upd H2 D (.lst [])) b = none := fun b hb => (f3 b hb).1.1
  generalize hce : compEnvC scope (cellsFrom (s3.heap.objs.size + 1) scope.names (cloFrom X.env.cells scope.names [])) s3.heap.objs.size X.env = ce at I4 pg pt pe0 ⊢
  have cL : ce.locals = s3.heap.objs.size := by subst hce; rfl
  have cF : ce.frame = X.env.frame := by subst hce; rfl
  generalize hH3 : upd H2 D (.lst []) = H3 at I3 I4 pg pt pe0 w0 nfp f3
  generalize hs4 : ({ s3 with heap := pushCells (s3.heap.push { cls := .type "dict", data := .dict #[] }) scope.names } : Shared) = s4 at I4 ⊢
  have st4 : tn 0 s4.heap := T.keep _ _ _ st3 fun b _ o e => by rw [← hs4]; exact pushCells_keeps _ _ _ _ (Heap.get?_push_of_some _ e)
  have stat : ∀ {σ' : St} {H' : Hp} {s' : Shared}, Inv (X.blk s3 H3 scope ce fp) [] σ' H' s' → (∀ b ∈ fp, H' b = none) → ∀ b ∈ fp, FpOk (X.blk s3 H3 scope ce fp) [] H' b := fun {σ' H' s'} I' hn b hb =>
    ⟨hn b hb, (I'.ok.exf b hb).1, I'.ok.exfs b hb, .inl hb, fun x c e => (I'.ok.exf b hb).2 x c e, fun p hp => absurd (show p ∈ ([] : List (Addr × Obj)) ++ [] from hp) (by simp)⟩
  have hchb : ∀ b ∈ fp, (b ∈ X.ex ∨ X.s_0.heap.objs.size ≤ b) ∧ b ≠ X.env.locals ∧ (∀ x c, X.env.cells.lookup x = some c → c ≠ b) ∧ ∀ p ∈ X.pn ++ pins, p.1 ≠ b := fun b hb => ⟨(f3 b hb).1.2.2.2.1, (f3 b hb).1.2.1, (f3 b hb).1.2.2.2.2.1, (f3 b hb).1.2.2.2.2.2⟩
  have hL : lx X = X.env.locals := by
    show X.env.frame.getD 0 = _
    rw [hfm]
    rfl
  -- what the block lets out
  have out : Tk ((X.blk s3 H3 scope ce fp).wish (notedBy (model X.prog X.w) X.A ce fun e s' => PySem.DlX.compPostF (model X.prog X.w) X.A X.xe X.env use Qf (.ref D) s3.heap.objs.size (.error e) s')) Wb := by
    rintro u s' ⟨pinsb, a, B, sI, σb, Hb, cls, d, c, n, rfl, A, ch, wb⟩
    show wpAny _ _ (noteFrame (.ref a) ce) _ _ _
    rw [noteFrame_eq cF]
    have hfr : X.A.frames = some (X.env :: X.outer) := by rw [I.ok.frames, hst]
    have IB : Inv (X.blk s3 H3 scope ce fp) pinsb σb Hb sI := Inv.unwish A.I
    have sky : Sky B (X.env :: X.outer) a (Zk cls d c) X.env.locals s'.heap := by
      have z : Sky B X.stack a (Zk cls d c) (ce.frame.getD 0) s'.heap := A.sky
      rw [hst, cF, hfm] at z
      exact z
    refine Sky.note Zk.steady hfr hfm sky fun h1 hh1 up1 => ?_
    obtain ⟨m, hns, _⟩ := id IB.loc
    have hns : sI.heap.Ns ce.locals m := hns
    rw [cL] at hns
    have hns1 := ns_upTo up1 (ns_upTo A.up hns)
    refine ⟨m, hns1, fun h' m' hn' sb cenv hcf => ?_⟩
    have hh2 := held_hide hh1 hns1 sb hn'
    have nC : Hb s3.heap.objs.size = none := by
      have z : Hb ce.locals = none := IB.free
      rw [cL] at z
      exact z
    have IX : Inv X pins σ Hb { sI with heap := PySem.W.hideAll sI.heap [s3.heap.objs.size] } := by
      have nC3 : ∀ {b : Addr} {o : Obj}, s3.heap.get? b = some o → b ≠ s3.heap.objs.size := fun {b o} q => Nat.ne_of_lt (Heap.lt_size q)
      have U : Un (frs X.stack) fp H3 Hb s3.heap sI.heap := IB.base
      refine I3.call' (ch := fp) (s' := { sI with heap := PySem.W.hideAll sI.heap [s3.heap.objs.size] }) IB.os ⟨fun b o q n1 n2 n3 => hide_get (U.keep b o q n1 n2 n3) (nC3 q), fun b o q n1 n2 n3 => ?_, U.free, fun b o q n3 => ?_, U.tups, U.frzs, U.tbls⟩ ?_ IB.bare hchb
      · obtain ⟨sl, z⟩ := U.slot b o q n1 n2 n3
        exact ⟨sl, hide_get z (nC3 q)⟩
      · obtain ⟨o', z⟩ := U.there b o q n3
        exact ⟨o', hide_get z (nC3 q)⟩
      · intro b o q
        refine (IB.hok b o q).stay (fun cc u hcc r => hide_get r fun z => ?_) (fun _ r => r) fun _ _ r => r
        subst z
        rcases hcc with hcc | hcc
        · rw [← hcc, nC] at q
          cases q
        · rw [nC] at hcc
          cases hcc
    obtain ⟨b1, b0, f1, oe, vs, T2, oT, ts, he2, hz, hd, e1, hnT, hTe, hT, hdT, hr3⟩ := id hh2
    unfold PySem.passOn
    refine wpAny_bind (wpAny_field he2 hd e1 ?_)
    rw [if_neg (show ¬ ((Value.ref T2 == Value.none) = true) from by simp)]
    rw [hcf, hfm]
    refine wpAny_bind (HandSPX.setFlight_onZ hh2 fun h4 hh4 up4 => wpAny_throw (tk _ _ ?_))
    refine ⟨pins, a, PySem.W.hideAll B [s3.heap.objs.size], _, σ, Hb, cls, d, c, n, rfl, ⟨IX, fun b o q hb => hide_get (A.nb b o (PySem.W.of_hideAll _ q) hb) (hide_ne q), fun b o q hnf => ?_, .inr (.inr ?_), A.na, A.os, A.ag⟩, ch, hW _ _ _ _ wb⟩
    · obtain ⟨sl1, q1⟩ := A.up b o (PySem.W.of_hideAll _ q) hnf
      obtain ⟨sl2, q2⟩ := up1 b _ q1 hnf
      have q3 := (sb.2 b (hide_ne q)).trans q2
      obtain ⟨sl4, q4⟩ := up4 b _ q3 hnf
      exact ⟨sl4, q4⟩
    · rw [hL, hst]
      exact hh4
  have pe := pe0 _ out
  have loop : codeAny (model X.prog X.w) X.A (.compLoop (.ListComp elt [⟨tg, iter, ifs, 0⟩] scope pos) 0 (.ref it) (.ref D) ce) (PySem.DlX.compPostF (model X.prog X.w) X.A X.xe X.env use Qf (.ref D) s3.heap.objs.size) s4 := by
    refine compLoop_any (fun n s' => ∃ i H', Inv (X.blk s3 H3 scope ce fp) [] (wipe σ (own.map (·.2))) H' s' ∧ tn i s'.heap ∧ (∀ b ∈ fp, H' b = none) ∧ Wt i n H') ?_ m0 ⟨0, H3, I4, st4, nfp, w0⟩
    rintro n s5 ⟨i, H5, I5, st5, n5, w5⟩
    rcases turn i n H5 w5 with ⟨stop, qq⟩ | ⟨go, Nx, hNx, step⟩
    · have td := T.done (X.blk s3 H3 scope ce fp) rfl rfl rfl hc i [] s5 _ H5 (fun _ _ => False) I5 (stat I5 n5) st5 stop
      refine thnF td fun r s6 ⟨hr, I6⟩ => ?_
      subst hr
      have I7 : Inv X pins σ H5 s6 := I3.call' (ch := fp) I6.os I6.base I6.hok I6.bare hchb
      have nC : H5 s3.heap.objs.size = none := by
        have z : H5 ce.locals = none := I6.free
        rw [cL] at z
        exact z
      obtain ⟨m, hn, _⟩ := I6.loc
      have hn : s6.heap.Ns ce.locals m := hn
      rw [cL] at hn
      exact hRR D s3.heap.objs.size s6 m H5 I7 qq hn (I3.fpOk (Nat.le_refl _) nC)
    · have ti := T.item (X.blk s3 H3 scope ce fp) rfl rfl rfl hc i [] s5 _ H5 (fun _ _ => False) I5 (stat I5 n5) st5 go
      refine thnF ti fun r s6 ⟨u, hr, h6⟩ => ?_
      subst hr
      refine thnF h6 fun _ s7 ⟨x, H7, I7, r7, y7, st7, n7⟩ => ?_
      have I7' := I7.pinned (stat I7 n7) (T.obj _ _ st7)
      refine thnF (pg.run _ s7 _ H7 x u _ I7' r7 (step x H7 y7)) fun _ s8 ⟨σ8, H8, I8, hw8, q8⟩ => ?_
      refine thnF (pt.run _ s8 σ8 H8 _ I8 q8) fun b s9 ⟨H9, I9, q9⟩ => ?_
      have fin : ∀ {s' : Shared} {H' : Hp}, Inv (X.blk s3 H3 scope ce fp) ([] ++ pinsAt fp s7.heap) σ8 H' s' → Nx H' → ∃ m, m < n ∧ ∃ i H', Inv (X.blk s3 H3 scope ce fp) [] (wipe σ (own.map (·.2))) H' s' ∧ tn i s'.heap ∧ (∀ b ∈ fp, H' b = none) ∧ Wt i m H' := fun {s' H'} I' nx => by
        obtain ⟨m', hm, w'⟩ := hNx H' nx
        have pin' : ∀ b ∈ fp, ∀ o, s7.heap.get? b = some o → s'.heap.get? b = some o ∧ H' b = none := fun b hb o e =>
          let z := I'.pin (b, o) (List.mem_append_right _ (List.mem_append_right _ (mem_pinsAt hb e)))
          ⟨z.1, z.2.1⟩
        have hl : (wipe σ (own.map (·.2))).length = σ8.length := by rw [← hw8, wipe_length]
        refine ⟨m', hm, i + 1, H', (I'.unpinned (pins := [])).weak hl (fun j v e => ?_), T.keep _ _ _ st7 fun b hb o e => (pin' b hb o e).1, fun b hb => ?_, w'⟩
        · rw [← hw8] at e
          exact (wipe_some e).1
        · obtain ⟨o, e, _⟩ := T.obj _ _ st7 b hb
          exact (pin' b hb o e).2
      cases b with
      | false =>
        simp only [Bool.false_eq_true, if_false] at q9 ⊢
        exact fin I9 q9
      | true =>
        simp only [if_true] at q9 ⊢
        refine wpAny_mono (pe.run _ s9 σ8 H9 _ (I9.wish _) q9) (fun z s10 hz => ?_) fun _ _ z => z
        obtain ⟨yv, H10, I10, r10, acc, hD10, hz10, nx⟩ := hz
        exact app_ok (X := X.blk s3 H3 scope ce fp) (Inv.unwish I10) hD10 hz10 r10 fun s11 I11 => fin I11 nx
  exact codeAny_compStart_list loop (T.self X.A 0 _ _ _ st4 loop)
/-- as a value -/
theorem pe_lcX {elt tg iter : Expr} {ifs : List Expr} {scope : Scope} {own : List (Str × Nat)} {pos : Pos} {wi : TI} {g : TG} {tt : TT} {te : St → TE} {W : WX} {Wb : St → WX} (hc : X.calm = true) (hst : X.stack = X.env :: X.outer) (hfm : X.env.frame = some X.env.locals) (hN : X.N.Nodup) (hi : PI X tg iter wi) (ok : BlkOk X.N X.env.scope scope own)
    (hg : ∀ (s : Shared) (H : Hp) (C : Addr) (cl : List (Str × Addr)) (fp : List Addr), PG (X.blk s H scope (compEnvC scope cl C X.env) fp) tg g) (ht : ∀ (s : Shared) (H : Hp) (C : Addr) (cl : List (Str × Addr)) (fp : List Addr), PTs (X.blk s H scope (compEnvC scope cl C X.env) fp) ifs tt)
    (tk : Tk X W) (hW : ∀ σ cls d σ2 H2, Wb σ cls d σ2 H2 → W cls d σ H2)
    (he : ∀ (σ : St) (s : Shared) (H : Hp) (C : Addr) (cl : List (Str × Addr)) (fp : List Addr) (E : Value → Shared → Prop), Tk ((X.blk s H scope (compEnvC scope cl C X.env) fp).wish E) (Wb σ) → PE ((X.blk s H scope (compEnvC scope cl C X.env) fp).wish E) elt (te σ)) (hs : ∀ x, foldedSetIterable iter X.env x = pure x := by intro _; rfl) :
    PE X (.ListComp elt [⟨tg, iter, ifs, 0⟩] scope pos) (fun σ => tLc wi g tt (te σ) (own.map (·.2)) σ) := by
  refine ⟨fun pins s σ H Q I h => ?_⟩
  rw [eval_ListComp]
  refine lc_coreX hc hst hfm hN I hi ok hg ht tk (hW σ) (he σ) hs h fun D C s' m H' I' q hn f => ⟨m, hn, fun h'' sb => ?_⟩
  obtain ⟨f0, f1, f2, f3, f4, f5⟩ := f
  exact ⟨.ref D, H', I'.turned (t' := s'.toks) (fun b o hb e => (sb.2 b hb).trans e) f0 f1 f3 f4 f5, rfl, q⟩
end
end Dl

set_option maxHeartbeats 2000000
namespace Dl
open PySem PySem.Spec L2
open PyProof.Rows hiding St

/-! ### comprehensions whose element may raise -/
section
variable {X : Cy} {tg iter elt : Expr} {ifs : List Expr} {scope : Scope} {z : Z} {pos : Pos}
abbrev BlkX (X : Cy) (scope : Scope) (s : Shared) (H : Hp) (C : Addr) (cl : List (Str × Addr)) (fp : List Addr) (E : Value → Shared → Prop) (RX : Addr → PyData → Z → Prop) : Cy := ⟨(X.blk s H scope (compEnvC scope cl C X.env) fp).wish E, RX, false⟩
def LcDX (X : Cy) (tg elt : Expr) (ifs : List Expr) (scope : Scope) (vs : List Nat) (g : TG) (Q : List Sl → Z → Prop) : List Sl → (Z → Prop) → Z → Prop := fun ys G z1 => ys.length ≤ 100000 ∧ ∃ I : Nat → List Sl → List OO → Prop, I 0 [] z1.ob ∧
  (∀ i acc om, I i acc om → G ⟨wipeZ z1.sl vs, om⟩) ∧
  (∀ i y acc om, ys[i]? = some y → I i acc om → acc.length ≤ i → GD X.K vs g y ⟨wipeZ z1.sl vs, om⟩ fun z2 => ∀ s H C cl fp, WTs (Blk X scope s H C cl fp) ifs z2 fun b z3 =>
    (b = true → ∀ s H C cl fp E, WE (BlkX X scope s H C cl fp E fun C dat z => X.RX C dat ⟨z1.sl, z.ob⟩) elt z3 fun x z4 => I (i + 1) (acc ++ [x]) z4.ob) ∧ (b = false → I (i + 1) acc z3.ob)) ∧
  ∀ acc om, I ys.length acc om → acc.length ≤ ys.length → Q acc ⟨z1.sl, om⟩
theorem lc_okX {own : List (Str × Nat)} {g : TG} {Q : List Sl → Z → Prop} {c : CtX X} {w : Wd} {σ : St} {k : VK} (bb : B X.K c w σ z)
    (h : WI X tg iter z (LcDX X tg elt ifs scope (own.map (·.2)) g Q))
    (hk : ∀ D vs acc w1 z1, B X.K c w1 σ z1 → w.Le w1 → Aside c w1 D → w1.H D = some (.lst vs) → Paired (Vl X.K w1) vs acc → Q acc z1 → k (.ref D) w1.H) :
    tLc (tI X tg iter) g (fun σ H Q => ∀ s H0 C cl fp, tTs (Blk X scope s H0 C cl fp) ifs σ H Q) (fun σ1 H Q => ∀ s H0 C cl fp E, Tk ((X.blk s H0 scope (compEnvC scope cl C X.env) fp).wish E) (fun cls d σ2 H2 => Wc X.RX X.K c cls d σ H2) → tE ((X.blk s H0 scope (compEnvC scope cl C X.env) fp).wish E) elt σ1 H Q) (own.map (·.2)) σ w.H k := by
  refine h c w σ _ bb fun J ys G w1 z1 b1 l1 dw ⟨hyl, I, h0, hG, hs, hd⟩ D hD => ?_
  have as1 : Aside c w1 D := b1.asideNew hD
  refine ⟨fun i m H' => m = ys.length - i ∧ i ≤ ys.length ∧ ∃ w' om vs acc, B X.K c w' σ ⟨z1.sl, om⟩ ∧ w1.Le w' ∧ w'.H = H' ∧ Aside c w' D ∧ w'.H D = some (.lst vs) ∧ Paired (Vl X.K w') vs acc ∧ acc.length ≤ i ∧ I i acc om,
    ⟨ys.length, by simp, Nat.zero_le _, ⟨w1.rho, w1.S, upd w1.H D (.lst [])⟩, z1.ob, [], [], b1.aside as1, le_aside, rfl, ⟨as1.nr, as1.nS, as1.nc⟩, upd_same, .nil, Nat.zero_le _, h0⟩, ?_⟩
  rintro i m H2 ⟨rfl, hi, w2, om, vs, acc, b2, l2, rfl, as2, hD2, hp2, ha, hI⟩
  have bw := b2.wipe (own.map (·.2))
  by_cases hlt : i < ys.length
  · refine .inr ⟨dw.goes i c w2 _ _ hlt bw l2 (hG i acc om hI), fun H' => ∃ w' om vs acc, B X.K c w' σ ⟨z1.sl, om⟩ ∧ w1.Le w' ∧ w'.H = H' ∧ Aside c w' D ∧ w'.H D = some (.lst vs) ∧ Paired (Vl X.K w') vs acc ∧ acc.length ≤ i + 1 ∧ I (i + 1) acc om,
      fun H' q => ⟨ys.length - (i + 1), by omega, rfl, hlt, q⟩, fun x H' y => ?_⟩
    have hy : ys[i]? = some ys[i] := List.getElem?_eq_getElem hlt
    have bs := bw.self
    obtain ⟨w3, rfl, b3, l3, r3⟩ := dw.yields i w2.ct w2 _ _ x H' ys[i] hy bs l2 (hG i acc om hI) y
    have b23 : w2.Le w3 := l3
    refine hs i ys[i] acc om hy hI ha w2.ct w3 _ x _ b3 r3 fun w4 σ4 z4 b4 l4 hwp hw => ⟨hwp.trans (wipe_wipe σ _), fun s0 H0 C cl fp => ?_⟩
    refine wts_ok (hw s0 H0 C cl fp) (.of _ (fun _ _ _ h => h) w2.ct) w4 σ4 _ b4 fun d w5 z5 b5 l5 hq => ?_
    have l25 : w2.Le w5 := (l3.trans l4).trans l5
    cases d with
    | true =>
      show ∀ s H0 C cl fp E, _ → tE ((X.blk s H0 scope (compEnvC scope cl C X.env) fp).wish E) elt σ4 w5.H _
      intro s1 H1 C1 cl1 fp1 E1 hE1
      refine hq.1 rfl s1 H1 C1 cl1 fp1 E1 ⟨w2.ct, hE1.imp fun cls d σ2 H2 hw => ?_, fun h => Bool.noConfusion h⟩ w5 σ4 _ b5 fun v x6 w6 z6 b6 l6 r6 hI6 => ?_
      · obtain ⟨C', dx, dat, w', z', v, rfl, rfl, bz, rfl, hS, hd', hX⟩ := hw
        exact ⟨C', dx, dat, w', ⟨z1.sl, z'.ob⟩, v, rfl, rfl, b2.slots (b2.comp bz) bz.le, rfl, hS, hd', hX⟩
      have l26 := l25.trans l6
      obtain ⟨as6, hD6⟩ := as2.on b2 hD2 b6
      refine ⟨vs, hD6, ?_, ⟨w6.rho, w6.S, upd w6.H D (.lst (vs ++ [v]))⟩, z6.ob, vs ++ [v], acc ++ [x6], ?_, ?_, rfl, ⟨as6.nr, as6.nS, as6.nc⟩, upd_same, ?_, ?_, hI6⟩
      · rw [hp2.length]
        exact Nat.lt_of_le_of_lt (Nat.le_trans ha (Nat.le_trans hi hyl)) (by decide)
      · have b7 : B X.K c w6 σ ⟨z1.sl, z6.ob⟩ := b2.slots (b2.comp b6) l26
        exact b7.aside as6
      · exact (l2.trans l26).trans le_aside
      · exact (hp2.mono fun _ _ q => q.mono (l26.trans le_aside)).snoc (r6.mono le_aside)
      · rw [List.length_append]
        simp
        omega
    | false =>
      show ∃ w' om vs acc, _
      obtain ⟨as5, hD5⟩ := as2.on b2 hD2 b5
      exact ⟨w5, z5.ob, vs, acc, b2.slots (b2.comp b5) l25, l2.trans l25, rfl, as5, hD5, hp2.mono fun _ _ q => q.mono l25, by omega, hq.2 rfl⟩
  · have e : i = ys.length := by omega
    subst e
    exact .inl ⟨dw.stops c w2 _ _ bw l2 (hG _ acc om hI), hk D vs acc w2 _ b2 (l1.trans l2) as2 hD2 hp2 (hd acc om hI ha)⟩
variable {own : List (Str × Nat)} {g : TG} {Q : Sl → Z → Prop}
theorem pe_lcK (hst : X.stack = X.env :: X.outer) (hfm : X.env.frame = some X.env.locals) (hN : X.N.Nodup) (ok : BlkOk X.N X.env.scope scope own) (hg : ∀ s H C cl fp, PG (Blk X scope s H C cl fp) tg g) (c : CtX X) (hc : X.calm = true) (hs : ∀ x, foldedSetIterable iter X.env x = pure x) :
    PE X.toCx (.ListComp elt [⟨tg, iter, ifs, 0⟩] scope pos) (fun σ => tLc (tI X tg iter) g (fun σ H Q => ∀ s H0 C cl fp, tTs (Blk X scope s H0 C cl fp) ifs σ H Q) (fun σ1 H Q => ∀ s H0 C cl fp E, Tk ((X.blk s H0 scope (compEnvC scope cl C X.env) fp).wish E) (fun cls d σ2 H2 => Wc X.RX X.K c cls d σ H2) → tE ((X.blk s H0 scope (compEnvC scope cl C X.env) fp).wish E) elt σ1 H Q) (own.map (·.2)) σ) :=
  pe_lcX hc hst hfm hN piB ok hg (fun s H C cl fp => ⟨fun pins s1 σ H1 Q I h => ptsB.run pins s1 σ H1 Q I (h s H C cl fp)⟩) c.tk (fun σ cls d σ2 H2 h => h)
    (te := fun σ σ1 H Q => ∀ s H0 C cl fp E, Tk ((X.blk s H0 scope (compEnvC scope cl C X.env) fp).wish E) (fun cls d σ2 H2 => Wc X.RX X.K c cls d σ H2) → tE ((X.blk s H0 scope (compEnvC scope cl C X.env) fp).wish E) elt σ1 H Q) (Wb := fun σ cls d σ2 H2 => Wc X.RX X.K c cls d σ H2)
    (fun σ s H C cl fp E ht => ⟨fun pins s1 σ1 H1 Q I h => h s H C cl fp E ht pins s1 I⟩) hs
theorem we_lcFX (hst : X.stack = X.env :: X.outer) (hfm : X.env.frame = some X.env.locals) (hN : X.N.Nodup) (ok : BlkOk X.N X.env.scope scope own) (hg : ∀ s H C cl fp, PG (Blk X scope s H C cl fp) tg g)
    (h : WI X tg iter z (LcDX X tg elt ifs scope (own.map (·.2)) g (FrzK Q))) (hc : X.calm = true := by rfl) (hs : ∀ x, foldedSetIterable iter X.env x = pure x := by intro _; rfl) :
    WE X (.ListComp elt [⟨tg, iter, ifs, 0⟩] scope pos) z Q := fun c w σ k bb hk =>
  tE_of (pe_lcK hst hfm hN ok hg c hc hs)
    (lc_okX bb h fun D vs acc w1 z1 b1 l1 as hD hp ⟨ds, ha, hq⟩ => hk (.ref D) (.sh (.list ds)) ⟨w1.rho, upd w1.S D (.lst vs), w1.H⟩ z1 (b1.stay as hD) (l1.trans (le_stay as.nS)) (Dq.lst (.inl upd_same) (DpAll_mono (le_stay (w := w1) as.nS).st (allSh_dp ha hp))) hq)
end

/-! ### try -/
section
variable {P : Program} {w : World} {K : PySem.W.Frag} {mg : Str → Option Value} {base : Heap} {X : Cy} {N : List Str} {sc : Scope} {k : Nat}
theorem Good.inBX (g : Good X P w K mg base N sc k) {scope : Scope} {s : Shared} {H : Hp} {C : Addr} {cl : List (Str × Addr)} {fp : List Addr} {E : Value → Shared → Prop} {RX : Addr → PyData → Z → Prop} {e : Expr} {z : Z} {Q : Sl → Z → Prop} (l : List (Str × Nat)) (gl : List Str) (h1 : l.all (nmB N (relS scope sc)) = true) (h2 : gl.all (gnB (relS scope sc)) = true)
    (h : Nms (BlkX X scope s H C cl fp E RX) l → Gns (BlkX X scope s H C cl fp E RX) gl → WE (BlkX X scope s H C cl fp E RX) e z Q) : WE (BlkX X scope s H C cl fp E RX) e z Q :=
  h (nms_of (X := BlkX X scope s H C cl fp E RX) (sc := relS scope sc) g.N (by rw [← g.sc]; rfl) h1) (gns_of (X := BlkX X scope s H C cl fp E RX) (sc := relS scope sc) (by rw [← g.sc]; rfl) h2)
theorem Good.tr (g : Good X P w K mg base N sc k) {pn : List (Addr × Obj)} {xe : Value → Shared → Prop} {RB : Addr → PyData → Z → Prop} (po : PassesOwn (model X.prog X.w) X.A X.env xe) : Good ⟨X.tr pn xe, RB, false⟩ P w K mg base N sc k := ⟨g.prog, g.w, g.K, g.mg, g.base, g.N, g.sc, g.calm, po, g.room, g.knd, g.fn, g.nd⟩
end
/-- an exception of the try's body, as the clauses get it -/
def WcL (RB : Addr → PyData → Z → Prop) (K : PySem.W.Frag) (c : Ct) (w : Wd) : WX := fun cls d σ H => ∃ (C dx : Addr) (dat : PyData) (w1 : Wd) (z : Z) (v : V), cls = .ref C ∧ d = some dx ∧ B K c w1 σ z ∧ w.Le w1 ∧ w1.H = H ∧ w1.S dx = some (.xd [("what", v)]) ∧ Dq K w1.S v dat ∧ RB C dat z
section
variable {P : Program} {w : World} {K : PySem.W.Frag} {mg : Str → Option Value} {base : Heap} {X : Cy} {N : List Str} {sc : Scope} {k : Nat} {body suite : List Stmt} {b₀ : Stmt} {h₀ : ExceptHandler} {hds : List ExceptHandler} {pos pos' np np2 mp ap p2 p3 yp vp : Pos} {z : Z} {Q : Out → Prop} {x n m y v : Str} {i j iv : Nat} {c0 : Value} {C2 : Addr} {kx : Nat}
theorem w1_tryCore (tp : TopX X) (g : Good X P w K mg base N sc k) (Pb : Out → Prop) (RB : Addr → PyData → Z → Prop)
    (hb : ∀ Y : Cy, Y.RX = RB → TopX Y → Good Y P w K mg base N sc k → WS Y body z Pb) (hn : ∀ o, Pb o → Q o)
    (hh : ∀ (c : CtX X) (w : Wd), ∃ Wh : Ends → WX, Hands X.toCx (h₀ :: hds) Wh ∧ ∀ D cls d σ H, EndsOk X.K c w Q D → WcL RB X.K c w cls d σ H → Wh D cls d σ H) : W1 X (.Try body (h₀ :: hds) [] [] pos) z Q := fun c w0 σ D bb hk => by
  obtain ⟨Wh, h1, h2⟩ := hh c w0
  refine tS_of (ps_tryK (tb := fun V D σ H => ∀ pn xe, Tk (X.tr pn xe) V → PassesOwn (model X.prog X.w) X.A X.env xe → tSs (X.tr pn xe) body D σ H) tp.stk tp.frm (fun V pn xe tk po => ⟨fun pins s σ H D I h => h pn xe tk po pins s I⟩) h1) ?_
  intro pn xe tk po
  have gY : Good (⟨X.tr pn xe, RB, false⟩ : Cy) P w K mg base N sc k := g.tr po
  refine hb ⟨X.tr pn xe, RB, false⟩ rfl ⟨tp.stk, tp.frm, tp.ex⟩ gY ⟨w0.ct, tk.imp fun cls d σ1 H1 hw => ?_, fun h => Bool.noConfusion h⟩ w0 σ D bb.self ⟨fun w' σ' z' b' l q => hk.nx w' σ' z' (bb.comp b') b'.le (hn _ q), fun v x w' σ' z' b' l r q => hk.rt v x w' σ' z' (bb.comp b') b'.le r (hn _ q), fun w' σ' z' b' l q => hk.bk w' σ' z' (bb.comp b') b'.le (hn _ q), fun w' σ' z' b' l q => hk.ct w' σ' z' (bb.comp b') b'.le (hn _ q)⟩
  obtain ⟨C, dx, dat, w1, z1, v, e1, e2, b1, e3, hS, hd, hR⟩ := hw
  exact h2 D cls d σ1 H1 hk ⟨C, dx, dat, w1, z1, v, e1, e2, bb.comp b1, b1.le, e3, hS, hd, hR⟩
theorem B.unset {K : PySem.W.Frag} {c : Ct} {w : Wd} {σ : St} {z : Z} (b : B K c w σ z) (i : Nat) : B K c w (σ.set i none) ⟨z.sl.set i .no, z.ob⟩ := ⟨b.same, b.len, b.nd, b.tr, paired_set (.inl rfl) i b.sl, b.ob, b.pre, b.fr, b.nw, b.st, b.nr⟩
theorem B.hide {K : PySem.W.Frag} {c : Ct} {w : Wd} {σ : St} {z : Z} (b : B K c w σ z) (i : Nat) (v : V) : B K c w (σ.set i (some v)) ⟨z.sl.set i .no, z.ob⟩ := ⟨b.same, b.len, b.nd, b.tr, paired_set (.inl rfl) i b.sl, b.ob, b.pre, b.fr, b.nw, b.st, b.nr⟩
theorem ends_out {c : CtX X} {cls : Value} {d : Option Addr} {σ : St} {H : Hp} {C dx : Addr} {dat : PyData} {w1 : Wd} {z1 : Z} {v : V} (e1 : cls = .ref C) (e2 : d = some dx) (b1 : B X.K c w1 σ z1) (e3 : w1.H = H) (hS : w1.S dx = some (.xd [("what", v)])) (hd : Dq X.K w1.S v dat) (h : X.RX C dat z1) : Wc X.RX X.K c cls d σ H := ⟨C, dx, dat, w1, z1, v, e1, e2, b1, e3, hS, hd, h⟩
/-- try: body / except x as n: m = n -/
theorem w1_tryKeep (tp : TopX X) (g : Good X P w K mg base N sc k) (hi : Nm X n i) (hi2 : Ns X n i) (hln : X.env.scope.names.lookup n = some .local) (hj : Ns X m j) (hij : i ≠ j) (hc : Names X.toCx x c0) (Pb : Out → Prop) (RB : Addr → PyData → Z → Prop)
    (hb : ∀ Y : Cy, Y.RX = RB → TopX Y → Good Y P w K mg base N sc k → WS Y body z Pb) (hn : ∀ o, Pb o → Q o)
    (hcat : ∀ C dat z', RB C dat z' → ∃ b, PySem.W.exmOne X.K (.ref C) c0 = some b ∧ (b = true → Q (.nx ⟨(z'.sl.set i .no).set j (.ex C dat), z'.ob⟩)) ∧ (b = false → X.RX C dat z')) :
    W1 X (.Try body [.ExceptHandler (some (.Name x np)) (some n) [.Assign [.Name m mp] (.Name n np2) ap] pos'] [] [] pos) z Q := by
  refine w1_tryCore tp g Pb RB hb hn fun c w0 => ⟨_, hands_cons tp.stk tp.frm hc (suite_nm (ts := fun a oe pn => tSs (X.suite a ((a, oe) :: pn)) [.Assign [.Name m mp] (.Name n np2) ap]) tp.stk tp.frm tp.ex hi2.nd hi2.n hln fun a oe pn => pssB) (hands_nil tp.stk tp.frm c.tk), fun D cls d σ H hk hw => ?_⟩
  obtain ⟨C, dx, dat, w1, z1, v, e1, e2, b1, l1, e3, hS, hd, hR⟩ := hw
  obtain ⟨b, hb1, hy, hn1⟩ := hcat C dat z1 hR
  refine ⟨b, by rw [e1]; exact hb1, fun hbt => ?_, fun hbf => ends_out e1 e2 b1 e3 hS hd (hn1 hbf)⟩
  intro a oe pn c' na hl hz
  subst e1 e2 e3
  refine tSs_of (pss_cons (ps_set (X := X.suite a ((a, oe) :: pn)) hi2.nd hj.n hj.l (pe_var (X := X.suite a ((a, oe) :: pn)) hi.n hi.v hi.d hi.c) rfl hj.f) pss_nil) ?_
  refine ⟨.ref a, by rw [List.getElem?_set_self hl], ?_⟩
  have b2 := b1.newS (o := exh a (.ref C) (some dx) c') na
  have r2 : Vl X.K ⟨w1.rho, upd w1.S a (exh a (.ref C) (some dx) c'), upd w1.H a (exh a (.ref C) (some dx) c')⟩ (.ref a) (.ex C dat) := by
    have le : w1.Le ⟨w1.rho, upd w1.S a (exh a (.ref C) (some dx) c'), upd w1.H a (exh a (.ref C) (some dx) c')⟩ := le_new (b1.freshS na)
    exact ⟨a, dx, c', v, rfl, upd_same, le.st _ _ hS, Dp_mono le.st hd⟩
  have b3 := ((b2.setSl (i := i) r2).setSl (i := j) r2).unset i
  have e : ((z1.sl.set i (.ex C dat)).set j (.ex C dat)).set i .no = (z1.sl.set i .no).set j (.ex C dat) := by
    rw [List.set_comm _ _ (Ne.symm hij), List.set_set]
  have hz3 : Q (.nx ⟨((z1.sl.set i (.ex C dat)).set j (.ex C dat)).set i .no, z1.ob⟩) := by
    rw [e]
    exact hy hbt
  exact hk.nx _ _ _ b3 (l1.trans (le_new (b1.freshS na))) hz3
/-- try: body / except x: suite, nothing raised in the suite -/
theorem w1_tryUn (tp : TopX X) (g : Good X P w K mg base N sc k) (hc : Names X.toCx x c0) (Pb : Out → Prop) (RB : Addr → PyData → Z → Prop)
    (hb : ∀ Y : Cy, Y.RX = RB → TopX Y → Good Y P w K mg base N sc k → WS Y body z Pb) (hn : ∀ o, Pb o → Q o)
    (hcat : ∀ C dat z', RB C dat z' → ∃ b, PySem.W.exmOne X.K (.ref C) c0 = some b ∧ (b = true → ∀ Y : Cy, Y.K = X.K → Y.N = X.N → Y.env = X.env → Y.fn = X.fn → WS Y (b₀ :: suite) z' Q) ∧ (b = false → X.RX C dat z')) :
    W1 X (.Try body [.ExceptHandler (some (.Name x np)) none (b₀ :: suite) pos'] [] [] pos) z Q := by
  refine w1_tryCore tp g Pb RB hb hn fun c w0 => ⟨_, hands_cons tp.stk tp.frm hc (suite_un (ts := fun a oe pn => tSs (X.suite a ((a, oe) :: pn)) (b₀ :: suite)) tp.stk tp.frm fun a oe pn => pssB) (hands_nil tp.stk tp.frm c.tk), fun D cls d σ H hk hw => ?_⟩
  obtain ⟨C, dx, dat, w1, z1, v, e1, e2, b1, l1, e3, hS, hd, hR⟩ := hw
  obtain ⟨b, hb1, hy, hn1⟩ := hcat C dat z1 hR
  refine ⟨b, by rw [e1]; exact hb1, fun hbt => ?_, fun hbf => ends_out e1 e2 b1 e3 hS hd (hn1 hbf)⟩
  intro a oe pn na
  subst e1 e2 e3
  exact hy hbt ⟨X.suite a ((a, oe) :: pn), fun _ _ _ => False, false⟩ rfl rfl rfl rfl (.of _ (fun _ _ _ h => h) c.toCt) w1 σ D b1 (hk.le l1)
/-- try: body / except x as n: raise y(v) from n -/
theorem w1_tryFrom (tp : TopX X) (htop : X.top = true) (g : Good X P w K mg base N sc k) (G : Kx X.prog X.w X.K X.mg X.base y kx C2) (hle : kx + 1 ≤ k) (hgy : Gn X y) (hi : Nm X n i) (hi2 : Ns X n i) (hln : X.env.scope.names.lookup n = some .local) (hv : Nm X v iv) (hij : i ≠ iv) (hc : Names X.toCx x c0) (Pb : Out → Prop) (RB : Addr → PyData → Z → Prop)
    (hb : ∀ Y : Cy, Y.RX = RB → TopX Y → Good Y P w K mg base N sc k → WS Y body z Pb) (hn : ∀ o, Pb o → Q o)
    (hcat : ∀ C dat z', RB C dat z' → ∃ b, PySem.W.exmOne X.K (.ref C) c0 = some b ∧ (b = true → PySem.W.subIn X.K (.ref C) (.type "BaseException") = some true ∧ ∃ dv, z'.sl[iv]? = some (.sh dv) ∧ X.RX C2 dv ⟨z'.sl.set i .no, z'.ob⟩) ∧ (b = false → X.RX C dat z'))
    (hs : starEach [.Name v vp] X.env = (false, eval (.Name v vp) X.env) :: starEach [] X.env := by rfl) (hpl : (backTo p3 (starEach [] X.env)).any (·.1) = false := by rfl) :
    W1 X (.Try body [.ExceptHandler (some (.Name x np)) (some n) [.Raise (some (.Call (.Name y yp) [.Name v vp] [] p3)) (some (.Name n np2)) p2] pos'] [] [] pos) z Q := by
  have rm : L2H.RoomH k X.A := ⟨g.room.r.dp, g.room.r.un⟩
  refine w1_tryCore tp g Pb RB hb hn fun c w0 => ⟨_, hands_cons tp.stk tp.frm hc (suite_from (W := Wc X.RX X.K c) (t := tMk1 C2 (tVar iv)) tp.stk tp.frm tp.ex hi2.nd hi2.n hln hi.d hi.c (c.tl htop) fun a oe pn xe => pmk1 (X := (X.suite a ((a, oe) :: pn)).wish xe) G ⟨rm.dp, rm.un⟩ hle (.inr ⟨_, List.mem_cons_self⟩) hgy.g hgy.d (pe_var (X := (X.suite a ((a, oe) :: pn)).wish xe) hv.n hv.v hv.d hv.c) hs hpl) (hands_nil tp.stk tp.frm c.tk), fun D cls d σ H hk hw => ?_⟩
  obtain ⟨C, dx, dat, w1, z1, u, e1, e2, b1, l1, e3, hS, hd, hR⟩ := hw
  obtain ⟨b, hb1, hy, hn1⟩ := hcat C dat z1 hR
  refine ⟨b, by rw [e1]; exact hb1, fun hbt => ?_, fun hbf => ends_out e1 e2 b1 e3 hS hd (hn1 hbf)⟩
  obtain ⟨hsub, dv, hzv, hX⟩ := hy hbt
  refine ⟨by rw [e1]; exact hsub, fun a c' m na hil ch => ?_⟩
  subst e1 e2 e3
  obtain ⟨uv, eu, ru⟩ := b1.get hzv (by intro q; cases q)
  refine ⟨uv, by rw [List.getElem?_set_ne hij]; exact eu, uv, rfl, fun d2 nd2 => ⟨List.getElem?_set_self hil, ⟨m, ch.mono fun b cls' d' c'' q => by rw [upd_ne (ne_of_none q nd2)]; exact q⟩, ⟨m, ch.mono fun b cls' d' c'' q => by rw [upd_ne (ne_of_none q nd2)]; exact q⟩, fun na2 => ?_⟩⟩
  have b2 := b1.newS (o := .xd [("what", uv)]) nd2
  have le2 : w1.Le ⟨w1.rho, upd w1.S d2 (.xd [("what", uv)]), upd w1.H d2 (.xd [("what", uv)])⟩ := le_new (b1.freshS nd2)
  have b3 := b2.newS (o := exh a (.ref C) (some dx) c') na2
  have le3 := le_new (o := exh a (.ref C) (some dx) c') (b2.freshS na2)
  have b4 := b3.hide i (.ref a)
  exact ⟨C2, d2, dv, _, _, uv, rfl, rfl, b4, rfl, le3.st _ _ upd_same, Dp_mono le3.st (Dp_mono le2.st ru), hX⟩
end
end Dl

set_option maxHeartbeats 2000000
namespace Dl
open PySem PySem.Spec L2
open PyProof.Rows hiding St

/-! ### exceptions as values: e.what, isinstance(e, C), e is None -/
structure XcC (K : PySem.W.Frag) (C : Addr) : Prop where
  cl : (PySem.W.clsIn K C).isSome = true
  ga : PySem.W.findIn K (.ref C) "__getattribute__" = some (some (.builtin "BaseException.__getattribute__"))
  gg : PySem.W.findIn K (.ref C) "__getattr__" = some none
  su : PySem.W.subIn K (.ref C) (.type "BaseException") = some true
  ca : PySem.W.findIn K (.ref C) "__class__" = some (some (.builtin "object.__class__"))
  cn : PySem.W.specialIn K (.builtin "object.__class__") "__get__" = some (some (.builtin "getset_descriptor.__get__"))
  ct : PySem.W.takesIn K (.builtin "object.__class__") = some true
  mo : PySem.W.mroIn K C (.type "object") = some true
  hd : PySem.W.hasDictIn K C = true
  no : PySem.W.findIn K (.ref C) "what" = some none
theorem xcB_ok {K : PySem.W.Frag} {C : Addr} (h : xcB K C = true) : XcC K C := by
  obtain ⟨h1, h⟩ := Bool.and_eq_true_iff.mp h
  obtain ⟨h2, h⟩ := Bool.and_eq_true_iff.mp h
  obtain ⟨h3, h⟩ := Bool.and_eq_true_iff.mp h
  obtain ⟨h4, h⟩ := Bool.and_eq_true_iff.mp h
  obtain ⟨h5, h⟩ := Bool.and_eq_true_iff.mp h
  obtain ⟨h6, h⟩ := Bool.and_eq_true_iff.mp h
  obtain ⟨h7, h⟩ := Bool.and_eq_true_iff.mp h
  obtain ⟨h8, h⟩ := Bool.and_eq_true_iff.mp h
  obtain ⟨h9, h⟩ := Bool.and_eq_true_iff.mp h
  exact ⟨h1, of_decide_eq_true h2, of_decide_eq_true h3, of_decide_eq_true h4, of_decide_eq_true h5, of_decide_eq_true h6, of_decide_eq_true h7, of_decide_eq_true h8, h9, of_decide_eq_true h⟩
/-- at a: an exception of the class at C, its what v -/
structure ExAt (K : PySem.W.Frag) (H : Hp) (a C dx : Addr) (cx : Value) (v : V) : Prop where
  e : H a = some (exh a (.ref C) (some dx) cx)
  d : H dx = some (.xd [("what", v)])
section
variable {X : Cx} {pins : List (Addr × Obj)} {σ : St} {H : Hp} {s : Shared} {a C dx : Addr} {cx : Value} {v : V}
theorem ExAt.inst (E : ExAt X.K H a C dx cx v) (I : Inv X pins σ H s) : ∃ ox od, PySem.W.InstAt s.heap a ox C (some od) ∧ ∃ u, PySem.W.lookIn "what" od = some (some u) ∧ L2.RelV v u := by
  have x : ObjOk X.prog X.w H s.heap a (exh a (.ref C) (some dx) cx) := I.hok a _ E.e
  obtain ⟨o, vs, h1, h2, h3, h4, _⟩ := (show (∃ (o : Obj) (vs : Array Value), s.heap.get? a = some o ∧ o.cls = .ref C ∧ o.dict = some dx ∧ o.data = .fields vs ∧ vs[2]? = some cx) from x.1)
  have y : ObjOk X.prog X.w H s.heap dx (.xd [("what", v)]) := I.hok dx _ E.d
  obtain ⟨mA, hns, hr⟩ := y
  obtain ⟨od, ho, hl⟩ := lookIn_ns hns
  obtain ⟨u, hu, ru⟩ := RelO.some_of (v := v) (o := mA "what") (by
    have := hr "what"
    exact this)
  exact ⟨o, od, ⟨h1, h2, by unfold PySem.W.notCls; rw [h4] <;> rfl, by rw [h3]; exact ho⟩, u, by rw [hl, hu], ru⟩
/-- e.what -/
def tWhat (K : PySem.W.Frag) (te : TE) : TE := fun σ H Q => te σ H fun x H1 => ∃ (a C dx : Addr) (cx : Value) (v : V), x = .ref a ∧ ExAt K H1 a C dx cx v ∧ XcC K C ∧ Q v H1
theorem pe_what {e : Expr} {te : TE} {pos : Pos} (he : PE X e te) (hb : attributeBase e "what" X.env (eval e X.env) = eval e X.env := by rfl) : PE X (.Attribute e "what" pos) (tWhat X.K te) := by
  refine ⟨fun pins s σ H Q I h => ?_⟩
  refine attr_of hb (thn (he.run pins s σ H _ I h) fun u s1 hh => ?_)
  obtain ⟨x, H1, I1, rx, a, C, dx, cx, v, ex, E, T, q⟩ := hh
  subst ex
  obtain rfl : u = Value.ref a := rx
  obtain ⟨ox, od, J, u, hu, ru⟩ := E.inst I1
  exact HandSPX.exc_get I1.kIn J T.ga T.gg T.su (PySem.W.findObj_own T.hd T.no rfl hu) (handed_of ru) ⟨v, H1, I1.tok _, ru, q⟩
/-- isinstance(e, c) -/
def rIsX (K : PySem.W.Frag) : List V → Hp → VK → Prop := fun xs H Q => ∃ (a C dx : Addr) (cx : Value) (v c : V) (u : Value) (b : Bool), xs = [.ref a, c] ∧ ExAt K H a C dx cx v ∧ XcC K C ∧ ClsV c u ∧ PySem.W.kitOne K (.ref C) u = some b ∧ Q (.bl b) H
def rIsXT (K : PySem.W.Frag) : List V → Hp → VK → Prop := fun xs H Q => ∃ (a C dx : Addr) (cx : Value) (v : V) (tp : Addr) (cs : List V) (us : List Value) (b : Bool), xs = [.ref a, .ref tp] ∧ ExAt K H a C dx cx v ∧ XcC K C ∧ H tp = some (.tup cs) ∧ Paired ClsV cs us ∧ PySem.W.kitAny K (.ref C) us = some b ∧ Q (.bl b) H
theorem call_isX : CallR X (.builtin "isinstance") (rIsX X.K) := by
  intro pins s σ H xs us Q I r h
  obtain ⟨a, C, dx, cx, v, c, u, b, rfl, E, T, k, e, q⟩ := h
  obtain ⟨u1, u2, rfl, r1, r2⟩ := vals2 r
  have e2 := k.eq r2
  subst e2
  obtain rfl : u1 = Value.ref a := r1
  obtain ⟨ox, od, J, _⟩ := E.inst I
  exact PySem.W.kia_one (PySem.W.kitx_exc T.cl T.ga T.gg T.su T.ca T.cn T.ct T.mo) I.kIn J e (fun z => nomatch z) fun tk => ⟨.bl b, H, I.tok tk, rfl, q⟩
theorem call_isXT : CallR X (.builtin "isinstance") (rIsXT X.K) := by
  intro pins s σ H xs us Q I r h
  obtain ⟨a, C, dx, cx, v, tp, cs, ws, b, rfl, E, T, hT, k, e, q⟩ := h
  obtain ⟨u1, u2, rfl, r1, r2⟩ := vals2 r
  cases (show u2 = Value.ref tp from r2)
  obtain rfl : u1 = Value.ref a := r1
  obtain ⟨ox, od, J, _⟩ := E.inst I
  obtain ⟨_, its, rv, o, h1, h2, n, h3⟩ := (show ObjOk X.prog X.w H s.heap tp (.tup cs) from I.hok tp _ hT)
  have e3 := ClsV.all k rv
  subst e3
  obtain ⟨oc, od2, dt, sl⟩ := o
  simp only at h2 h3
  subst h2 h3
  exact PySem.W.kia_tup (PySem.W.kitx_exc T.cl T.ga T.gg T.su T.ca T.cn T.ct T.mo) I.kIn J h1 e (fun z => nomatch z) fun tk => ⟨.bl b, H, I.tok tk, rfl, q⟩
end
section
variable {X : Cy} {e a : Expr} {z : Z} {Q : Sl → Z → Prop} {pos p : Pos}
theorem vl_ex {K : PySem.W.Frag} {c : Ct} {w : Wd} {σ : St} {z : Z} {v : V} {C : Addr} {dat : PyData} (b : B K c w σ z) (r : Vl K w v (.ex C dat)) : ∃ a dx cx u, v = .ref a ∧ ExAt K w.H a C dx cx u ∧ Dq K w.S u dat := by
  obtain ⟨a, dx, cx, u, e, h1, h2, h3⟩ := r
  exact ⟨a, dx, cx, u, e, ⟨b.same _ _ h1, b.same _ _ h2⟩, h3⟩
theorem we_what (h : WE X e z fun y z1 => ∃ C dat, y = .ex C dat ∧ XcC X.K C ∧ Q (.sh dat) z1) (hb : attributeBase e "what" X.env (eval e X.env) = eval e X.env := by rfl) : WE X (.Attribute e "what" pos) z Q := fun c w σ k bb hk =>
  tE_of (pe_what peB hb) (h c w σ _ bb fun v y w1 z1 b1 l1 r1 ⟨C, dat, ey, T, q⟩ => by
    subst ey
    obtain ⟨a, dx, cx, u, rfl, E, hd⟩ := vl_ex b1 r1
    exact ⟨a, C, dx, cx, u, rfl, E, T, hk u (.sh dat) w1 z1 b1 l1 hd q⟩)
/-- a class by its name -/
inductive ClsN (X : Cy) (t : Str) : V → Value → Prop
  | own {T : Addr} : Gn X t → X.mg t = some (.ref T) → ClsN X t (.ref T) (.ref T)
  | ty {T : String} : Gn X t → X.mg t = none → bootBuiltins t = some (.type T) → ClsN X t (.ty T) (.type T)
theorem ClsN.pe {t : Str} {pt : Pos} {c : V} {u : Value} (h : ClsN X t c u) : PE X.toCx (.Name t pt) (tC c) ∧ ClsV c u := by
  cases h with
  | own g m => exact ⟨pe_glob g.g m rfl g.d, .own _⟩
  | ty g m v => exact ⟨pe_bltn g.g m v rfl g.n g.d, .ty _⟩
theorem we_isx {t : Str} {pt : Pos} {cv : V} {cu : Value} (b : Bi X "isinstance" "isinstance") (bt : ClsN X t cv cu) (h : WE X a z fun y z1 => ∃ C dat r, y = .ex C dat ∧ XcC X.K C ∧ PySem.W.kitOne X.K (.ref C) cu = some r ∧ Q (.sh (.bool r)) z1)
    (he : starEach [a, .Name t pt] X.env = (false, eval a X.env) :: starEach [.Name t pt] X.env := by rfl) (he2 : starEach [.Name t pt] X.env = (false, eval (.Name t pt) X.env) :: starEach [] X.env := by rfl) (hpl : (backTo pos (starEach [.Name t pt] X.env)).any (·.1) = false := by rfl) :
    WE X (.Call (.Name "isinstance" p) [a, .Name t pt] [] pos) z Q := fun c w σ k bb hk =>
  tE_of (pe_callB call_isX b.g.g b.m boot_isinstance (pa_cons peB (pa_cons bt.pe.1 pa_nil he2) he) b.g.n b.g.d he hpl) (h c w σ _ bb fun v y w1 z1 b1 l1 r1 ⟨C, dat, r, ey, T, e1, q⟩ => by
    subst ey
    obtain ⟨a, dx, cx, u, rfl, E, hd⟩ := vl_ex b1 r1
    exact ⟨a, C, dx, cx, u, cv, cu, r, rfl, E, T, bt.pe (pt := pt).2, e1, hk _ _ w1 z1 b1 l1 (vB _) q⟩)
theorem we_isx2 {t u : Str} {pt pu ptt : Pos} {x1} {cv cw : V} {cu cy : Value} (b : Bi X "isinstance" "isinstance") (bt : ClsN X t cv cu) (bu : ClsN X u cw cy) (h : WE X a z fun y z1 => ∃ C dat r r2, y = .ex C dat ∧ XcC X.K C ∧ PySem.W.kitOne X.K (.ref C) cu = some r ∧ PySem.W.kitOne X.K (.ref C) cy = some r2 ∧ Q (.sh (.bool (r || r2))) z1)
    (he : starEach [a, .Tuple [.Name t pt, .Name u pu] x1 ptt] X.env = (false, eval a X.env) :: starEach [.Tuple [.Name t pt, .Name u pu] x1 ptt] X.env := by rfl)
    (he2 : starEach [.Tuple [.Name t pt, .Name u pu] x1 ptt] X.env = (false, eval (.Tuple [.Name t pt, .Name u pu] x1 ptt) X.env) :: starEach [] X.env := by rfl)
    (he3 : starEach [.Name t pt, .Name u pu] X.env = (false, eval (.Name t pt) X.env) :: starEach [.Name u pu] X.env := by rfl) (he4 : starEach [.Name u pu] X.env = (false, eval (.Name u pu) X.env) :: starEach [] X.env := by rfl)
    (hpl : (backTo pos (starEach [.Tuple [.Name t pt, .Name u pu] x1 ptt] X.env)).any (·.1) = false := by rfl) :
    WE X (.Call (.Name "isinstance" p) [a, .Tuple [.Name t pt, .Name u pu] x1 ptt] [] pos) z Q := fun c w σ k bb hk =>
  tE_of (pe_callB call_isXT b.g.g b.m boot_isinstance (pa_cons peB (pa_cons (pe_tup (pa_cons bt.pe.1 (pa_cons bu.pe.1 pa_nil he4) he3)) pa_nil he2) he) b.g.n b.g.d he hpl) (h c w σ _ bb fun v y w1 z1 b1 l1 r1 ⟨C, dat, r, r', ey, T, e1, e2, hq⟩ => by
    subst ey
    refine ⟨show 2 ≤ sizeLine by decide, fun tp hn => ?_⟩
    have as := b1.asideNew hn
    have b2 := b1.aside (o := .tup [cv, cw]) as
    have l2 : w1.Le ⟨w1.rho, w1.S, upd w1.H tp (.tup [cv, cw])⟩ := le_aside
    have fin : k (.bl (r || r')) (upd w1.H tp (.tup [cv, cw])) := hk _ _ _ z1 b2 (l1.trans l2) (vB _) hq
    obtain ⟨a, dx, cx, u, rfl, E, hd⟩ := vl_ex b2 (r1.mono l2)
    refine ⟨a, C, dx, cx, u, tp, _, _, _, rfl, E, T, upd_same, .cons (bt.pe (pt := pt)).2 (.cons (bu.pe (pt := pt)).2 .nil), ?_, fin⟩
    refine kitAny_cons e1 (fun e => ?_) (fun e => by rw [e]; rfl)
    rw [e, Bool.false_or]
    exact kitAny_cons e2 (fun e => by rw [e]; exact kitAny_nil) (fun e => e))
theorem rd_isNx {C : Addr} {dat : PyData} (h : Q (.sh (.bool false)) z) : RD X (compareOp .Is) (.ex C dat) (.sh .none) z Q := fun c w σ v u k b r1 r2 hk => by
  cases Dp_non r2
  obtain ⟨a, dx, cx, u, rfl, E, hd⟩ := vl_ex b r1
  exact rB_of op_isN ⟨rfl, hk _ _ w z b (.refl w) (vB _) h⟩
theorem rd_notNx {C : Addr} {dat : PyData} (h : Q (.sh (.bool true)) z) : RD X (compareOp .IsNot) (.ex C dat) (.sh .none) z Q := fun c w σ v u k b r1 r2 hk => by
  cases Dp_non r2
  obtain ⟨a, dx, cx, u, rfl, E, hd⟩ := vl_ex b r1
  exact rB_of op_notN ⟨rfl, hk _ _ w z b (.refl w) (vB _) h⟩
end
end Dl

set_option maxHeartbeats 2000000
namespace Dl
open PySem PySem.Spec L2
open PyProof.Rows hiding St

/-! ### exceptions made as values -/
section
variable {X : Cx} {pins : List (Addr × Obj)} {σ : St} {H : Hp} {sI s' : Shared} {a : Addr} {cls c : Value} {d : Option Addr} {oe : Obj} {vs : Array Value}
theorem Inv.got (I : Inv X pins σ H sI) (hex : X.ex = []) (k : ∀ b o, sI.heap.get? b = some o → s'.heap.get? b = some o) (hne : sI.heap.get? a = none) (he : s'.heap.get? a = some oe) (na : H a = none) (os : s'.os = sI.os) (ag : AllBare s'.gens) (hz : Zk cls d c oe) (hd : oe.data = .fields vs) : Inv X pins σ (upd H a (exh a cls d c)) s' := by
  have J : Inv X pins σ H s' := I.call' (ch := []) os (Un.kept k) (I.hok.kept k) ag (fun _ z => nomatch z)
  have nI : ∀ {b : Addr} {o : Obj}, sI.heap.get? b = some o → b ≠ a := fun {b o} q z => by rw [z, hne] at q; cases q
  have n0 : X.s_0.heap.get? a = none := by
    cases e : X.s_0.heap.get? a with
    | none => rfl
    | some u =>
      obtain ⟨o', q⟩ := I.base.there a u e (by rw [hex]; simp)
      rw [hne] at q
      cases q
  have nL : a ≠ X.env.locals := fun z => by
    obtain ⟨m, ⟨o, es, ep, ho, _⟩, _⟩ := I.loc
    exact nI ho z.symm
  have nF : a ∉ X.fs := fun hm => by
    have hms : a ∈ frs X.stack := by
      rcases I.ok.stk with z | ⟨z, _⟩
      · rw [z]
        exact hm
      · rw [z]
        obtain ⟨e, he, q⟩ := List.mem_filterMap.mp hm
        exact List.mem_filterMap.mpr ⟨e, List.mem_cons_of_mem _ he, q⟩
    obtain ⟨_, o', e', _⟩ := I.stack.mem hms
    exact nI e' rfl
  have J2 : Inv X (pins ++ [(a, oe)]) σ H s' := ⟨J.ok, J.os, J.bare, J.base, J.loc, J.cell, J.free, J.freeC, fun p hp => by
    rcases List.mem_append.mp hp with z | z
    · exact J.pin p (List.mem_append_left _ z)
    · rcases List.mem_append.mp z with z | z
      · exact J.pin p (List.mem_append_right _ z)
      · rw [List.mem_singleton] at z
        rw [z]
        exact ⟨he, na, nL, nF, fun v q => by
          have q : oe.data = .cell v := q
          rw [hd] at q
          cases q⟩, J.hok, J.len⟩
  exact Inv.track J2 n0 (fun p hp => nI (I.pin p hp).1) hz.1 hz.2.1 hd (hz.2.2 _ hd).2
theorem pe_made {e : Expr} {t : St → Hp → XK → Prop} (hex : X.ex = []) (h : PMkK X e t) : PE X e (fun σ H Q => t σ H fun cls d H' => ∀ a, H' a = none → Q (.ref a) (upd H' a (exh a cls d .none))) := by
  refine ⟨fun pins s σ H Q I hq => thn (h pins s σ H _ I hq) fun u s1 hu => ?_⟩
  obtain ⟨a, oe, vs, sI, H', cls, d, rfl, J, k, hne, ha, hz, hd, h1, na, os, ag, r, q⟩ := hu
  exact ⟨.ref a, _, Inv.got J hex k hne ha na os ag hz hd, rfl, q a na⟩
end
def ExcQ (C : Addr) (Q : Sl → Z → Prop) : Sl → Z → Prop := fun y z1 => ∃ dat : PyData, y = .sh dat ∧ Q (.ex C dat) z1
section
variable {X : Cy} {x : Str} {p pos kp : Pos} {e : Expr} {es : List Expr} {z : Z} {Q : Sl → Z → Prop} {C : Addr} {k kk : Nat} {ps : List Str} {R : Rl}
theorem made_val {c : CtX X} {w w1 : Wd} {σ : St} {z1 : Z} {v : V} {y : Sl} {kx : VK} (b1 : B X.K c w1 σ z1) (l1 : w.Le w1) (r1 : Vl X.K w1 v y) (hq : ExcQ C Q y z1) (hk : Cont X.K c w σ Q kx) :
    ∃ v', [v] = [v'] ∧ ∀ d, w1.H d = none → ∀ a, upd w1.H d (.xd [("what", v')]) a = none → kx (.ref a) (upd (upd w1.H d (.xd [("what", v')])) a (exh a (.ref C) (some d) .none)) := by
  obtain ⟨dat, ey, hq⟩ := hq
  subst ey
  refine ⟨v, rfl, fun d nd a na => ?_⟩
  have b2 := b1.newS (o := .xd [("what", v)]) nd
  have le2 : w1.Le ⟨w1.rho, upd w1.S d (.xd [("what", v)]), upd w1.H d (.xd [("what", v)])⟩ := le_new (b1.freshS nd)
  have b3 := b2.newS (o := exh a (.ref C) (some d) .none) na
  have le3 := le_new (o := exh a (.ref C) (some d) .none) (b2.freshS na)
  exact hk (.ref a) (.ex C dat) _ z1 b3 ((l1.trans le2).trans le3) ⟨a, d, .none, v, rfl, upd_same, le3.st _ _ upd_same, Dp_mono le3.st (Dp_mono le2.st r1)⟩ hq
/-- C(e) as a value -/
theorem we_exc (G : Kx X.prog X.w X.K X.mg X.base x k C) (hr : RoomG kk X.A) (hle : k + 1 ≤ kk) (hc : X.calm = true) (hex : X.ex = []) (hg : Gn X x) (h : WE X e z (ExcQ C Q)) (he : starEach [e] X.env = (false, eval e X.env) :: starEach [] X.env := by rfl) (hpl : (backTo pos (starEach [] X.env)).any (·.1) = false := by rfl) :
    WE X (.Call (.Name x p) [e] [] pos) z Q := fun c w σ kx bb hk =>
  tE_of (pe_made hex (pmk1 G ⟨hr.r.dp, hr.r.un⟩ hle (.inl hc) hg.g hg.d peB he hpl)) (h c w σ _ bb fun v y w1 z1 b1 l1 r1 hq => made_val b1 l1 r1 hq hk)
/-- C(what=e) as a value -/
theorem we_excW (G : Kx X.prog X.w X.K X.mg X.base x k C) (hr : RoomG kk X.A) (hle : k + 1 ≤ kk) (hc : X.calm = true) (hex : X.ex = []) (hg : Gn X x) (h : WE X e z (ExcQ C Q)) (hall : (backToKw pos (keywordEach [⟨some "what", e, kp⟩] X.env)).all (·.1.isSome) = true := by rfl) (hks : (backToKw pos (keywordEach [⟨some "what", e, kp⟩] X.env)).filterMap (·.1) = ([("what" : Str)] : List Str) := by rfl)
    (hpl : ((backTo pos (starEach [] X.env)).any (·.1) || (backToKw pos (keywordEach [⟨some "what", e, kp⟩] X.env)).any (·.1.isNone)) = false := by rfl) : WE X (.Call (.Name x p) [] [⟨some "what", e, kp⟩] pos) z Q := fun c w σ kx bb hk =>
  tE_of (pe_made hex (pmkW G ⟨hr.r.dp, hr.r.un⟩ hle (.inl hc) hg.g hg.d peB hall hks hpl)) (h c w σ _ bb fun v y w1 z1 b1 l1 r1 hq => made_val b1 l1 r1 hq hk)
/-! ### any def that is handed data and exceptions -/
def fxS : Sl → Bool
  | .sh _ => true
  | .ex _ _ => true
  | _ => false
theorem Vl.fx {K : PySem.W.Frag} {w : Wd} {v : V} : ∀ {x : Sl}, fxS x = true → Vl K w v x → Vl K ⟨[], w.S, w.H⟩ v x
  | .sh _, _, h => h
  | .ex _ _, _, h => h
theorem Vls.fx {K : PySem.W.Frag} {w : Wd} : ∀ {vs : List V} {xs : List Sl}, xs.all fxS = true → Paired (Vl K w) vs xs → Paired (Vl K ⟨[], w.S, w.H⟩) vs xs
  | _, _, _, .nil => .nil
  | _, _, h, .cons r t => by
    rw [List.all_cons, Bool.and_eq_true] at h
    exact .cons (Vl.fx h.1 r) (Vls.fx h.2 t)
theorem call_fx {R : Rl} {c : Ct} {w : Wd} {σ : St} {kk : VK} {vs : List V} {xs : List Sl} {Q' : Sl → List OO → Prop} {E : XK} (n : Nat) (b : B X.K c w σ z) (hv : Paired (Vl X.K w) vs xs) (hn : xs.length = n) (hx : xs.all fxS = true) (hR : R xs [] Q')
    (hQ : ∀ y om, Q' y om → Q (mpS z.ob.length y) ⟨z.sl, z.ob ++ om.map (mpO z.ob.length)⟩) (hk : Cont X.K c w σ Q kk) : spD X.K n R (vs ++ []) w.H kk E := by
  rw [List.append_nil]
  refine ⟨by rw [hv.length]; exact hn, ⟨[], w.S, w.H⟩, xs, [], Q', rfl, b.ent0, Vls.fx hx hv, hR, fun y om' v w' hq b' rv => ?_⟩
  obtain ⟨b2, l⟩ := b.back0 b'
  exact hk v (mpS z.ob.length y) ⟨w.rho ++ w'.rho, w'.S, w'.H⟩ _ b2 l (Vl.mp (z := z) b.len rv rfl) (hQ y om' hq)
theorem we_cF (c : Cf X x k ps R) (hr : RoomG kk X.A) (hle : k ≤ kk) (h : WA X (e :: es) z fun xs z1 => ∃ Q', xs.all fxS = true ∧ R xs [] Q' ∧ xs.length = ps.length ∧ ∀ y om, Q' y om → Q (mpS z1.ob.length y) ⟨z1.sl, z1.ob ++ om.map (mpO z1.ob.length)⟩)
    (he : starEach (e :: es) X.env = (false, eval e X.env) :: starEach es X.env := by rfl) (hpl : (backTo pos (starEach es X.env)).any (·.1) = false := by rfl) : WE X (.Call (.Name x p) (e :: es) [] pos) z Q := by
  obtain ⟨f, fd, G, hm, hk, hb⟩ := c.d.ex
  exact fun ct w σ kk bb hkk => tE_of (pe_callG G (hr.mono hle) c.g.g hm hk hb pass0x paB c.g.d he hpl) (h ct w σ _ bb fun vs xs w1 z1 b1 l1 hv ⟨Q', hx, hR, hn, hQ⟩ => call_fx ps.length b1 hv hn hx hR hQ (hkk.le l1))
/-! ### isinstance(e, (A, B, C)); a text many times -/
theorem we_isx3 {a : Expr} {t u q : Str} {pt pu pq ptt : Pos} {x1} {cv cw cz : V} {cu cy cq : Value} (b : Bi X "isinstance" "isinstance") (bt : ClsN X t cv cu) (bu : ClsN X u cw cy) (bq : ClsN X q cz cq)
    (h : WE X a z fun y z1 => ∃ C dat r r2 r3, y = .ex C dat ∧ XcC X.K C ∧ PySem.W.kitOne X.K (.ref C) cu = some r ∧ PySem.W.kitOne X.K (.ref C) cy = some r2 ∧ PySem.W.kitOne X.K (.ref C) cq = some r3 ∧ Q (.sh (.bool (r || (r2 || r3)))) z1)
    (he : starEach [a, .Tuple [.Name t pt, .Name u pu, .Name q pq] x1 ptt] X.env = (false, eval a X.env) :: starEach [.Tuple [.Name t pt, .Name u pu, .Name q pq] x1 ptt] X.env := by rfl)
    (he2 : starEach [.Tuple [.Name t pt, .Name u pu, .Name q pq] x1 ptt] X.env = (false, eval (.Tuple [.Name t pt, .Name u pu, .Name q pq] x1 ptt) X.env) :: starEach [] X.env := by rfl)
    (he3 : starEach [.Name t pt, .Name u pu, .Name q pq] X.env = (false, eval (.Name t pt) X.env) :: starEach [.Name u pu, .Name q pq] X.env := by rfl) (he4 : starEach [.Name u pu, .Name q pq] X.env = (false, eval (.Name u pu) X.env) :: starEach [.Name q pq] X.env := by rfl)
    (he5 : starEach [.Name q pq] X.env = (false, eval (.Name q pq) X.env) :: starEach [] X.env := by rfl) (hpl : (backTo pos (starEach [.Tuple [.Name t pt, .Name u pu, .Name q pq] x1 ptt] X.env)).any (·.1) = false := by rfl) :
    WE X (.Call (.Name "isinstance" p) [a, .Tuple [.Name t pt, .Name u pu, .Name q pq] x1 ptt] [] pos) z Q := fun c w σ k bb hk =>
  tE_of (pe_callB call_isXT b.g.g b.m boot_isinstance (pa_cons peB (pa_cons (pe_tup (pa_cons bt.pe.1 (pa_cons bu.pe.1 (pa_cons bq.pe.1 pa_nil he5) he4) he3)) pa_nil he2) he) b.g.n b.g.d he hpl) (h c w σ _ bb fun v y w1 z1 b1 l1 r1 ⟨C, dat, r, r', r3, ey, T, e1, e2, e3, hq⟩ => by
    subst ey
    refine ⟨show 3 ≤ sizeLine by decide, fun tp hn => ?_⟩
    have as := b1.asideNew hn
    have b2 := b1.aside (o := .tup [cv, cw, cz]) as
    have l2 : w1.Le ⟨w1.rho, w1.S, upd w1.H tp (.tup [cv, cw, cz])⟩ := le_aside
    have fin : k (.bl (r || (r' || r3))) (upd w1.H tp (.tup [cv, cw, cz])) := hk _ _ _ z1 b2 (l1.trans l2) (vB _) hq
    obtain ⟨a, dx, cx, u, rfl, E, hd⟩ := vl_ex b2 (r1.mono l2)
    refine ⟨a, C, dx, cx, u, tp, _, _, _, rfl, E, T, upd_same, .cons (bt.pe (pt := pt)).2 (.cons (bu.pe (pt := pt)).2 (.cons (bq.pe (pt := pt)).2 .nil)), ?_, fin⟩
    refine kitAny_cons e1 (fun e => ?_) (fun e => by rw [e]; rfl)
    rw [e, Bool.false_or]
    refine kitAny_cons e2 (fun e => ?_) (fun e => by rw [e]; rfl)
    rw [e, Bool.false_or]
    exact kitAny_cons e3 (fun e => by rw [e]; exact kitAny_nil) (fun e => e))
def repS (x : Str) (n : Nat) : Str := ⟨(List.replicate n x.cps.toList).flatten.toArray⟩
theorem fold_app (x : Array Nat) : ∀ (n : Nat) (l : List Nat), (List.replicate n x).foldl (· ++ ·) l.toArray = (l ++ (List.replicate n x.toList).flatten).toArray
  | 0, l => by simp
  | n + 1, l => by
    rw [List.replicate_succ, List.foldl_cons]
    have e : l.toArray ++ x = (l ++ x.toList).toArray := by simp
    rw [e, fold_app x n, List.replicate_succ, List.flatten_cons, List.append_assoc]
theorem rd_repS {x : Str} {n : Int} (h0 : 0 ≤ n) (hn : n ≤ 100000) (hx : x.length ≤ 100) (h : Q (.sh (.str (repS x n.toNat))) z) : RD X (binaryOp .Mult) (.sh (.str x)) (.sh (.int n)) z Q := fun c w σ v u k b r1 r2 hk => by
  cases Dp_str r1
  cases Dp_int r2
  refine rB_of (r := fun x' y' H Q => x' = .str x ∧ y' = .int n ∧ Q (.str (repS x n.toNat)) H) ?_ ⟨rfl, rfl, hk _ _ w z b (.refl w) (vS _) h⟩
  intro pins s σ H x' y' v u Q I rx ry hh
  obtain ⟨rfl, rfl, q⟩ := hh
  obtain ⟨t, rfl⟩ := (show ∃ t, v = Value.str x t from rx)
  obtain ⟨t2, rfl⟩ := (show ∃ t, u = Value.int n t from ry)
  have em : repS x 0 = Str.empty := rfl
  refine PySem.P.mul_str ?_ (fun h1 h2 => ?_) (fun h1 h2 => ?_) ?_
  · rw [decide_eq_false (by omega), decide_eq_false (by omega)]
    rfl
  · have h3 : 1 ≤ n := by omega
    have h4 : (100 : Int) ≤ (2 ^ 63 - 1) / n := by
      refine Int.le_ediv_of_mul_le (by omega) ?_
      omega
    omega
  · simp only [Builtin.Str.tooLong, sizeLine_eq, decide_eq_false_iff_not, Nat.not_lt]
    have : x.length * n.toNat ≤ 100 * 100000 := Nat.mul_le_mul hx (by omega)
    omega
  · by_cases h1 : n < 1
    · rw [if_pos h1]
      have e : n = 0 := by omega
      subst e
      exact ⟨by decide, .str (repS x (0 : Int).toNat), H, I.tok _, ⟨_, rfl⟩, q⟩
    · rw [if_neg h1]
      by_cases h2 : (n == 1 || x.length == 0) = true
      · rw [if_pos h2]
        have e : repS x n.toNat = x := by
          rw [Bool.or_eq_true, beq_iff_eq, beq_iff_eq] at h2
          rcases h2 with h2 | h2
          · subst h2
            show (⟨(List.replicate 1 x.cps.toList).flatten.toArray⟩ : Str) = x
            simp
          · have h3 : x.cps.toList = [] := List.eq_nil_of_length_eq_zero (by
              have : x.length = x.cps.toList.length := by show x.cps.size = _; simp
              omega)
            unfold repS
            rw [h3]
            have : (List.replicate n.toNat ([] : List Nat)).flatten = [] := by simp
            rw [this]
            exact (Str.ext' (Array.toList_inj.mp (by rw [h3]))).symm
        rw [e] at q
        exact ⟨.str x, H, I, ⟨t, rfl⟩, q⟩
      · rw [if_neg h2]
        have e : (⟨(List.replicate n.toNat x.cps).foldl (· ++ ·) #[]⟩ : Str) = repS x n.toNat := by
          unfold repS
          have := fold_app x.cps n.toNat []
          rw [List.nil_append] at this
          exact congrArg Str.mk this
        rw [e]
        refine ⟨?_, .str (repS x n.toNat), H, I.tok _, ⟨_, rfl⟩, q⟩
        show (repS x n.toNat).cps.size ≤ sizeLine
        unfold repS
        rw [List.size_toArray, List.length_flatten, List.map_replicate, List.sum_replicate_nat, sizeLine_eq]
        have h3 : x.cps.toList.length = x.length := by show _ = x.cps.size; simp
        rw [h3]
        have : n.toNat * x.length ≤ 100000 * 100 := Nat.mul_le_mul (by omega) hx
        omega
end
end Dl

set_option maxHeartbeats 2000000
namespace Dl
open PySem PySem.Spec
open L2 hiding WE XE Takes CX
open PyProof.Rows hiding St

/-! ### what the head tells of the classes of exceptions -/
theorem and2 {a b : Bool} (h : (a && b) = true) : a = true ∧ b = true := Bool.and_eq_true_iff.mp h
theorem clsB_ok {K : PySem.W.Frag} {C R : Addr} (h : clsB K C R = true) : (∃ nm q N bs sn sub ab col dd k0 k1 k2 k3 k5, K.lookup C = some (excClassObj nm q C N bs (.ref R :: PySem.HandSPX.veTail) true sn sub ab col dd k0 k1 k2 k3 k5 "ValueError.__new__")) ∧ ∃ cd, PySem.W.clsIn K C = some cd ∧ cd.mro = .ref C :: .ref R :: PySem.HandSPX.veTail := by
  unfold clsB at h
  split at h
  · rename_i dd cd sl ho
    split at h
    · rename_i k0 k1 k2 k3 n k5 hs
      simp only [Bool.and_eq_true, beq_iff_eq, Bool.not_eq_true', decide_eq_true_eq] at h
      obtain ⟨rfl, hdel, hdict, hm⟩ := h
      refine ⟨?_, cd, by unfold PySem.W.clsIn; rw [ho], hm⟩
      obtain ⟨nm, bs, mro, ns, qn, hd, sn, sub, ab, col, del⟩ := cd
      dsimp only at hdel hdict hm
      subst hm hdel hdict
      have hsl : sl = #[k0, k1, k2, k3, some (.builtin "ValueError.__new__"), k5] := by
        obtain ⟨l⟩ := sl
        simp only at hs
        rw [hs]
      subst hsl
      exact ⟨nm, qn, ns, bs, sn, sub, ab, col, dd, k0, k1, k2, k3, k5, ho⟩
    · cases h
  · cases h
/-- a class C over R over ValueError; fI: R's __init__ -/
structure Exf1 (K : PySem.W.Frag) (R fI C : Addr) : Prop where
  cls : ∃ nm q N bs sn sub ab col dd k0 k1 k2 k3 k5, K.lookup C = some (excClassObj nm q C N bs (.ref R :: PySem.HandSPX.veTail) true sn sub ab col dd k0 k1 k2 k3 k5 "ValueError.__new__")
  mro : ∃ cd, PySem.W.clsIn K C = some cd ∧ cd.mro = .ref C :: .ref R :: PySem.HandSPX.veTail
  xc : XcC K C
  ini : PySem.W.findIn K (.ref C) "__init__" = some (some (.ref fI))
  sa : PySem.W.findIn K (.ref C) "__setattr__" = some (some (.builtin "object.__setattr__"))
  ty : PySem.W.typeIn K (.ref C) = some (.type "type")
  kp : PySem.W.keepIn K (.ref C) = true
structure Exf (K : PySem.W.Frag) (R fI : Addr) (cl : List Addr) : Prop where
  one : ∀ C ∈ cl, Exf1 K R fI C
  nd : (R :: cl).Nodup
  rs : (PySem.W.clsIn K R).isSome = true
  rt : PySem.W.typeIn K (.ref R) = some (.type "type")
  ft : PySem.W.typeIn K (.ref fI) = some (.type "function")
  rb : PySem.W.subIn K (.ref R) (.type "BaseException") = some true
theorem vV_ok (K : PySem.W.Frag) : PySem.W.findCls K (.type "ValueError") (.type "type") "__init__" = some (.val (.builtin "ValueError.__init__")) := by rfl
theorem ndB_ok : ∀ {l : List Addr}, ndB l = true → l.Nodup
  | [], _ => List.nodup_nil
  | a :: l, h => by
    obtain ⟨h1, h2⟩ := and2 h
    refine List.nodup_cons.mpr ⟨fun hm => ?_, ndB_ok h2⟩
    rw [List.contains_iff_mem.mpr hm] at h1
    cases h1
theorem exfB_ok {K : PySem.W.Frag} {R fI : Addr} {cl : List Addr} (h : exfB K R fI cl = true) : Exf K R fI cl := by
  obtain ⟨h1, h⟩ := and2 h
  obtain ⟨h2, h⟩ := and2 h
  obtain ⟨h3, h⟩ := and2 h
  obtain ⟨h4, h⟩ := and2 h
  obtain ⟨h5, h7⟩ := and2 h
  refine ⟨fun C hC => ?_, ndB_ok h2, h3, of_decide_eq_true h4, of_decide_eq_true h5, of_decide_eq_true h7⟩
  obtain ⟨e1, e⟩ := and2 (List.all_eq_true.mp h1 C hC)
  obtain ⟨e2, e⟩ := and2 e
  obtain ⟨e3, e⟩ := and2 e
  obtain ⟨e4, e⟩ := and2 e
  obtain ⟨e5, e6⟩ := and2 e
  exact ⟨(clsB_ok e1).1, (clsB_ok e1).2, xcB_ok e2, of_decide_eq_true e3, of_decide_eq_true e4, of_decide_eq_true e5, e6⟩
section
variable {K : PySem.W.Frag} {R fI C D : Addr} {cl : List Addr} {P : Program} {w : World} {mg : Str → Option Value} {base : Heap}
theorem Exf1.ox (e : Exf1 K R fI C) : OexC K C := by
  obtain ⟨nm, q, N, bs, sn, sub, ab, col, dd, k0, k1, k2, k3, k5, h⟩ := e.cls
  exact ⟨⟨nm, q, N, bs, _, sn, sub, ab, col, dd, k0, k1, k2, k3, k5, h, rfl⟩, e.sa, e.xc.su, e.ty, e.kp⟩
/-- the class as those who raise it know it -/
theorem Exf.kx (e : Exf K R fI cl) (hC : C ∈ cl) {x : Str} (hm : mg x = some (.ref C)) {fd : FuncData} (F : FnB P w K mg base 1 fI fd ["self", "what"] (initX K)) (hb : Binds K fd ["self", "what"] [])
    (hk : ∀ (s : Shared) (a u : Value), BindsTo s fd ⟨[a], [("what", u)]⟩ [("self", a), ("what", u)]) : Kx P w K mg base x 1 C :=
  ⟨(e.one C hC).ox, (e.one C hC).xc.no, hm, fI, fd, (e.one C hC).ini, e.ft, F, hb, hk⟩
theorem Exf1.mroIn (e : Exf1 K R fI C) (v : Value) : PySem.W.mroIn K C v = some ((Value.ref C :: .ref R :: PySem.HandSPX.veTail).contains v) := by
  obtain ⟨cd, h1, h2⟩ := e.mro
  unfold PySem.W.mroIn
  rw [h1, Option.bind_some, h2]
  rfl
theorem Exf1.kitT (e : Exf1 K R fI C) {T : String} (hm : PySem.W.kitMeta T = true) : PySem.W.kitOne K (.ref C) (.type T) = some (PySem.HandSPX.veTail.contains (.type T)) := by
  unfold PySem.W.kitOne
  rw [if_neg (by simp)]
  unfold PySem.W.kitCls
  dsimp only
  rw [if_pos hm]
  unfold PySem.W.subIn
  dsimp only
  rw [e.mroIn]
  rfl
theorem Exf1.kitC (e : Exf1 K R fI C) (hs : (PySem.W.clsIn K D).isSome = true) (ht : PySem.W.typeIn K (.ref D) = some (.type "type")) : PySem.W.kitOne K (.ref C) (.ref D) = some (decide (C = D) || decide (R = D)) := by
  unfold PySem.W.kitOne
  by_cases hCD : C = D
  · subst hCD
    rw [if_pos (by simp)]
    simp
  · rw [if_neg (by simpa using hCD)]
    unfold PySem.W.kitCls
    dsimp only
    rw [hs, ht, if_pos (by simp)]
    unfold PySem.W.subIn
    dsimp only
    rw [e.mroIn]
    have h1 : (Value.ref D == Value.ref C) = false := by simpa using fun h => hCD h.symm
    have h2 : (Value.ref D == Value.ref R) = decide (R = D) := by
      by_cases h : R = D
      · subst h; simp
      · rw [decide_eq_false h]; simpa using fun q => h q.symm
    rw [List.contains_cons, List.contains_cons, h1, h2, decide_eq_false hCD]
    have h3 : PySem.HandSPX.veTail.contains (Value.ref D) = false := rfl
    rw [h3, Bool.or_false]
theorem Exf1.isSome (e : Exf1 K R fI C) : (PySem.W.clsIn K C).isSome = true := e.xc.cl
theorem Exf.kr (e : Exf K R fI cl) (hC : C ∈ cl) : PySem.W.kitOne K (.ref C) (.ref R) = some true := by
  rw [(e.one C hC).kitC e.rs e.rt]
  simp
theorem Exf.ki (e : Exf K R fI cl) (hC : C ∈ cl) (hD : D ∈ cl) : PySem.W.kitOne K (.ref C) (.ref D) = some (decide (C = D)) := by
  rw [(e.one C hC).kitC (e.one D hD).isSome (e.one D hD).ty]
  have : R ≠ D := fun h => (List.nodup_cons.mp e.nd).1 (h ▸ hD)
  rw [decide_eq_false this, Bool.or_false]
theorem Exf.kk (e : Exf K R fI cl) (i j : Nat) (C D : Addr) (hC : cl[i]? = some C) (hD : cl[j]? = some D) : PySem.W.kitOne K (.ref C) (.ref D) = some (decide (i = j)) := by
  rw [e.ki (List.mem_of_getElem? hC) (List.mem_of_getElem? hD)]
  have h : (C = D) ↔ (i = j) := by
    refine ⟨fun q => ?_, fun q => ?_⟩
    · subst q
      have hi := (List.getElem?_eq_some_iff.mp hC).1
      exact (List.getElem?_inj hi (List.nodup_cons.mp e.nd).2).mp (hC.trans hD.symm)
    · subst q
      exact Option.some.inj (hC.symm.trans hD)
  rw [decide_eq_decide.mpr h]
theorem exm_kit {c : Value} {b : Bool} (hs : PySem.W.subIn K c (.type "BaseException") = some true) (hne : (Value.ref C == c) = false) (h : PySem.W.kitOne K (.ref C) c = some b) : PySem.W.exmOne K (.ref C) c = some b := by
  unfold PySem.W.exmOne
  rw [hs, if_pos (by simp)]
  unfold PySem.W.kitOne at h
  rw [hne] at h
  simpa using h
/-- except R, where C left -/
theorem Exf.exR (e : Exf K R fI cl) (hC : C ∈ cl) : PySem.W.exmOne K (.ref C) (.ref R) = some true :=
  exm_kit e.rb (by
    have : C ≠ R := fun h => (List.nodup_cons.mp e.nd).1 (h ▸ hC)
    simpa using this) (e.kr hC)
/-- except D, where C left -/
theorem Exf.exC (e : Exf K R fI cl) (hC : C ∈ cl) (hD : D ∈ cl) : PySem.W.exmOne K (.ref C) (.ref D) = some (decide (C = D)) := by
  unfold PySem.W.exmOne
  rw [(e.one D hD).xc.su, if_pos (by simp)]
  unfold PySem.W.kitCls
  dsimp only
  rw [(e.one D hD).isSome, (e.one D hD).ty, if_pos (by simp)]
  unfold PySem.W.subIn
  dsimp only
  rw [(e.one C hC).mroIn, List.contains_cons, List.contains_cons]
  have hR : R ≠ D := fun h => (List.nodup_cons.mp e.nd).1 (h ▸ hD)
  have h1 : (Value.ref D == Value.ref C) = decide (C = D) := by
    by_cases h : C = D
    · subst h; simp
    · rw [decide_eq_false h]; simpa using fun q => h q.symm
  have h2 : (Value.ref D == Value.ref R) = false := by simpa using fun q => hR q.symm
  have h3 : PySem.HandSPX.veTail.contains (Value.ref D) = false := rfl
  rw [h1, h2, h3, Bool.or_false, Bool.or_false]
end
end Dl

set_option hygiene false
/-! one step of the walk -/
local macro_rules | `(tactic| walk_at "name") => `(tactic| first
  | ((with_reducible refine' Dl.we_nm (by assumption) ?sd ?sd2 ?_); (case sd => exact rfl); (case sd2 => exact rfl))
  | ((with_reducible refine Dl.we_gint (Dl.Gn.g (by assumption)) (by assumption) ?_ (Dl.Gn.d (by assumption))))
  | ((with_reducible refine Dl.we_gstr (Dl.Gn.g (by assumption)) (by assumption) ?_ (Dl.Gn.d (by assumption)))))
local macro_rules | `(tactic| walk_at "call") => `(tactic| first
  | ((with_reducible refine Dl.we_cE (by assumption) (by assumption) ?sd ?_ ?sd2 ?sd3); (case sd => omega); (case sd2 => exact rfl); (case sd3 => exact rfl))
  | ((with_reducible refine Dl.we_cX (by assumption) (by assumption) ?sd ?_ ?sd2 ?sd3); (case sd => omega); (case sd2 => exact rfl); (case sd3 => exact rfl))
  | ((with_reducible refine Dl.we_cP (by assumption) (by assumption) ?sd ?_ ?sd2 ?sd3); (case sd => omega); (case sd2 => exact rfl); (case sd3 => exact rfl))
  | ((with_reducible refine Dl.we_cN (by assumption) (by assumption) ?sd ?_ ?sd2 ?sd3); (case sd => omega); (case sd2 => exact rfl); (case sd3 => exact rfl)))
local macro_rules | `(tactic| walk_at "bi") => `(tactic| first
  | ((with_reducible refine Dl.we_sortSet (by assumption) (by assumption) (Dl.Good.calm (by assumption)) ?_ ?sd2 ?sd3 ?sd4 ?sd5); (case sd2 => exact rfl); (case sd3 => exact rfl); (case sd4 => exact rfl); (case sd5 => exact rfl))
  | ((with_reducible refine Dl.we_listRg (by assumption) (by assumption) ?sd0 (Dl.Good.calm (by assumption)) ?_ ?sd2 ?sd3); (case sd0 => (rw [g.mg]; exact B.range)); (case sd2 => exact rfl); (case sd3 => exact rfl))
  | ((with_reducible refine Dl.we_isi' (by assumption) (by assumption) ?_ ?sd2 ?sd3 ?sd4); (case sd2 => exact rfl); (case sd3 => exact rfl); (case sd4 => exact rfl))
  | ((with_reducible refine Dl.we_isi2' (by assumption) (by assumption) (by assumption) ?_ ?sd2 ?sd3 ?sd4 ?sd5 ?sd6); (case sd2 => exact rfl); (case sd3 => exact rfl); (case sd4 => exact rfl); (case sd5 => exact rfl); (case sd6 => exact rfl))
  | ((with_reducible refine Dl.we_bi' (by assumption) ?_ ?sd2 ?sd3); (case sd2 => exact rfl); (case sd3 => exact rfl))
  | ((with_reducible refine Dl.we_ty' (by assumption) ?_ ?sd2 ?sd3); (case sd2 => exact rfl); (case sd3 => exact rfl)))
local macro_rules | `(tactic| walk_at "we") => `(tactic| first
  | ((with_reducible show Dl.WE _ (Expr.Name _ _) _ _); walk_at "name")
  | ((with_reducible show Dl.WE _ (Expr.Attribute _ _ _) _ _); (with_reducible refine Dl.we_fld (by assumption) ?_ ?sd); (case sd => exact rfl))
  | ((with_reducible show Dl.WE _ (Expr.Constant (Const.int _) _ _) _ _); refine Dl.we_int ?_)
  | ((with_reducible show Dl.WE _ (Expr.Constant (Const.str _) _ _) _ _); refine Dl.we_str ?_)
  | ((with_reducible show Dl.WE _ (Expr.Constant (Const.bool _) _ _) _ _); refine Dl.we_bl ?_)
  | ((with_reducible show Dl.WE _ (Expr.Constant Const.none _ _) _ _); refine Dl.we_non ?_)
  | ((with_reducible show Dl.WE _ (Expr.Dict [] [] _) _ _); refine Dl.we_dnew ?_)
  | ((with_reducible show Dl.WE _ (Expr.BinOp _ _ _ _) _ _); refine Dl.we_bin ?_)
  | ((with_reducible show Dl.WE _ (Expr.Subscript _ (Expr.Slice _ _ none _) _) _ _); refine Dl.we_sl ?_)
  | ((with_reducible show Dl.WE _ (Expr.Subscript _ (Expr.Slice _ _ (some _) _) _) _ _); refine Dl.we_sl3 ?_)
  | ((with_reducible show Dl.WE _ (Expr.Subscript (Expr.Dict _ _ _) _ _) _ _); ((with_reducible refine Dl.we_disp3 (by assumption) ?_ ?sd); (case sd => exact fun _ _ => rfl)))
  | ((with_reducible show Dl.WE _ (Expr.Subscript (Expr.Name _ _) _ _) _ _); (with_reducible refine Dl.we_kix (by assumption) (by assumption) ?_ ?sd); (case sd => exact fun _ _ => rfl))
  | ((with_reducible show Dl.WE _ (Expr.Subscript _ _ _) _ _); refine Dl.we_ix ?_)
  | ((with_reducible show Dl.WE _ (Expr.Compare _ _ _ _) _ _); refine Dl.we_cmp ?_)
  | ((with_reducible show Dl.WE _ (Expr.UnaryOp UnaryOp.Not _ _) _ _); refine Dl.we_not ?_)
  | ((with_reducible show Dl.WE _ (Expr.UnaryOp _ _ _) _ _); refine Dl.we_un ?_)
  | ((with_reducible show Dl.WE _ (Expr.IfExp _ _ _ _) _ _); refine Dl.we_ifx ?_)
  | ((with_reducible show Dl.WE _ (Expr.BoolOp _ [_] _) _ _); refine Dl.we_one ?_)
  | ((with_reducible show Dl.WE _ (Expr.BoolOp BoolOp.And _ _) _ _); refine Dl.we_and ?_)
  | ((with_reducible show Dl.WE _ (Expr.BoolOp BoolOp.Or _ _) _ _); refine Dl.we_or ?_)
  | ((with_reducible show Dl.WE _ (Expr.Tuple _ _ _) _ _); refine Dl.we_tup ?_)
  | ((with_reducible show Dl.WE _ (Expr.Call (Expr.Name _ _) _ _ _) _ _); first | walk_at "call" | walk_at "bi")
  | ((with_reducible show Dl.WE _ (Expr.Call (Expr.Attribute _ _ _) _ _ _) _ _); first
      | ((with_reducible show Dl.WE _ (Expr.Call (Expr.Attribute _ (Str.ofString "append") _) _ _ _) _ _); refine Dl.we_mO PySem.F.slot_list_append PySem.F.type_list_append ?_)
      | ((with_reducible show Dl.WE _ (Expr.Call (Expr.Attribute _ (Str.ofString "insert") _) _ _ _) _ _); refine Dl.we_mO PySem.F.slot_list_insert PySem.F.type_list_insert ?_)
      | ((with_reducible show Dl.WE _ (Expr.Call (Expr.Attribute _ (Str.ofString "extend") _) _ _ _) _ _); refine Dl.we_mO PySem.F.slot_list_extend PySem.F.type_list_extend ?_)
      | ((with_reducible show Dl.WE _ (Expr.Call (Expr.Attribute _ (Str.ofString "upper") _) [] _ _) _ _); refine Dl.we_upper ?_)
      | ((with_reducible show Dl.WE _ (Expr.Call (Expr.Attribute _ (Str.ofString "pop") _) (_ :: _) _ _) _ _); refine Dl.we_mO PySem.F.slot_list_pop PySem.F.type_list_pop ?_)
      | ((with_reducible show Dl.WE _ (Expr.Call (Expr.Attribute _ (Str.ofString "pop") _) _ _ _) _ _); refine Dl.we_mO0 PySem.F.slot_list_pop PySem.F.type_list_pop ?_)
      | ((with_reducible show Dl.WE _ (Expr.Call (Expr.Attribute _ (Str.ofString "reverse") _) _ _ _) _ _); refine Dl.we_mO0 PySem.F.slot_list_reverse PySem.F.type_list_reverse ?_)))
local macro_rules | `(tactic| walk_at "wt") => `(tactic| first
  | ((with_reducible show Dl.WT _ (Expr.Compare _ _ _ _) _ _); refine Dl.wt_cmp ?_)
  | ((with_reducible show Dl.WT _ (Expr.UnaryOp UnaryOp.Not _ _) _ _); refine Dl.wt_not ?_)
  | ((with_reducible show Dl.WT _ (Expr.BoolOp _ _ _) _ _); refine Dl.wt_ww ?_)
  | ((with_reducible show Dl.WT _ _ _ _); refine Dl.wt_val ?_))
local macro_rules | `(tactic| walk_at "ww") => `(tactic| first
  | ((with_reducible show Dl.WW _ (Expr.BoolOp BoolOp.And [_] _) _ _); refine Dl.ww_and1 ?_)
  | ((with_reducible show Dl.WW _ (Expr.BoolOp BoolOp.Or [_] _) _ _); refine Dl.ww_or1 ?_)
  | ((with_reducible show Dl.WW _ (Expr.BoolOp BoolOp.And _ _) _ _); refine Dl.ww_and ?_)
  | ((with_reducible show Dl.WW _ (Expr.BoolOp BoolOp.Or _ _) _ _); refine Dl.ww_or ?_))
local macro_rules | `(tactic| walk_at "set") => `(tactic| ((with_reducible refine Dl.w1_ns (by assumption) ?sd ?_); (case sd => exact rfl)))
local macro_rules | `(tactic| walk_at "w1") => `(tactic| first
  | ((with_reducible show Dl.W1 _ (Stmt.If _ _ _ _) _ _); refine Dl.w1_if ?_)
  | ((with_reducible show Dl.W1 _ (Stmt.Return (some _) _) _ _); refine Dl.w1_ret ?_)
  | ((with_reducible show Dl.W1 _ (Stmt.Return none _) _ _); refine Dl.w1_retN ?_)
  | ((with_reducible show Dl.W1 _ (Stmt.Pass _) _ _); refine Dl.w1_pass ?_)
  | ((with_reducible show Dl.W1 _ (Stmt.Break _) _ _); refine Dl.w1_break ?_)
  | ((with_reducible show Dl.W1 _ (Stmt.Continue _) _ _); refine Dl.w1_cont ?_)
  | ((with_reducible show Dl.W1 _ (Stmt.Expr _ _) _ _); refine Dl.w1_expr ?_)
  | ((with_reducible show Dl.W1 _ (Stmt.Assign [Expr.Name _ _] _ _) _ _); walk_at "set")
  | ((with_reducible show Dl.W1 _ (Stmt.Assign [Expr.Attribute _ _ _] _ _) _ _); (with_reducible refine Dl.w1_fld (by assumption) ?_ ?sd); (case sd => exact rfl))
  | ((with_reducible show Dl.W1 _ (Stmt.AugAssign (Expr.Attribute _ _ _) _ _ _) _ _); (with_reducible refine Dl.w1_fldAdd (by assumption) ?_))
)
local macro_rules | `(tactic| walk_at "side") => `(tactic| first | assumption | omega | (simp only [List.length_map]; omega) | (refine ⟨?_, ?_⟩ <;> omega) | exact Or.inl ⟨by omega, by omega⟩ | exact Or.inr ⟨by omega, by omega⟩ | exact ⟨by omega, by omega, by omega⟩ | decide | exact ⟨by decide, by decide, by decide⟩ | exact Or.inr ⟨by split <;> omega, by split <;> omega⟩ | (split <;> omega) | (simp; done) | (simp; omega) | walk_at "side2")
local macro_rules | `(tactic| walk_at "side2") => `(tactic| fail "side")
local macro_rules | `(tactic| walk_at "rd") => `(tactic| first
  | with_reducible refine Dl.rd_addI ?_ | with_reducible refine Dl.rd_subI ?_ | ((with_reducible refine Dl.rd_mulI ?sd ?_); (case sd => walk_at "side")) | ((with_reducible refine Dl.rd_modI ?sd ?_); (case sd => walk_at "side")) | ((with_reducible refine Dl.rd_fdivI ?sd ?_); (case sd => walk_at "side")) | ((with_reducible refine Dl.rd_powI ?sd ?_); (case sd => walk_at "side"))
  | with_reducible refine Dl.rd_gtI ?_ | with_reducible refine Dl.rd_ltI ?_ | with_reducible refine Dl.rd_leI ?_ | with_reducible refine Dl.rd_geI ?_ | with_reducible refine Dl.rd_eqI ?_ | with_reducible refine Dl.rd_neI ?_
  | with_reducible refine Dl.rd_isB ?_ | with_reducible refine Dl.rd_isNotB ?_ | ((with_reducible refine Dl.rd_catT ?sd ?_); (case sd => walk_at "side"))
  | with_reducible refine Dl.rd_inSg ?_ | with_reducible refine Dl.rd_notInSg ?_ | with_reducible refine Dl.rd_eqN ?_ | with_reducible refine Dl.rd_inI ?_ | with_reducible refine Dl.rd_notInI ?_
  | with_reducible refine Dl.rd_eqB ?_ | with_reducible refine Dl.rd_neB ?_ | with_reducible refine Dl.rd_eqS ?_ | with_reducible refine Dl.rd_neS ?_ | with_reducible refine Dl.rd_isN ?_ | with_reducible refine Dl.rd_notN ?_
  | ((with_reducible refine Dl.rd_addS ?sd ?_); (case sd => walk_at "side")) | ((with_reducible refine Dl.rd_catF ?sd ?_); (case sd => walk_at "side")) | ((with_reducible refine Dl.rd_repF ?sd ?sd2 ?sd3 ?_); (case sd => walk_at "side"); (case sd2 => walk_at "side"); (case sd3 => walk_at "side")))
local macro_rules | `(tactic| walk_at "id") => `(tactic| first
  | ((with_reducible refine' Dl.id_O ?sd ?sd2 ?_); (case sd => exact rfl); (case sd2 => exact rfl))
  | ((with_reducible refine' Dl.id_L ?sd ?_); (case sd => exact rfl))
  | ((with_reducible refine' Dl.id_T ?sd ?_); (case sd => exact rfl)))
local macro_rules | `(tactic| walk_at "cd") => `(tactic| first
  | with_reducible refine Dl.cd_lenL ?_ | with_reducible refine Dl.cd_lenT ?_ | ((with_reducible refine' Dl.cd_lenO ?sd ?_); (case sd => exact rfl)) | ((with_reducible refine Dl.cd_lenS ?sd ?_); (case sd => walk_at "side")) | with_reducible refine Dl.cd_abs ?_ | with_reducible refine Dl.cd_max ?_ (Dl.Good.calm (by assumption)) | with_reducible refine Dl.cd_min ?_ (Dl.Good.calm (by assumption))
  | with_reducible refine Dl.cd_intI ?_ | with_reducible refine Dl.cd_intB ?_ | with_reducible refine Dl.cd_listL ?_ | with_reducible refine Dl.cd_listT ?_ | with_reducible refine Dl.cd_tupL ?_ | with_reducible refine Dl.cd_tupT ?_)
local macro_rules | `(tactic| walk_at "mo") => `(tactic| first
  | ((with_reducible refine' Dl.mo_append ?sd ?sd2 ?_); (case sd => exact rfl); (case sd2 => walk_at "side"))
  | ((with_reducible refine' Dl.mo_extendT ?sd ?sd2 ?_); (case sd => exact rfl); (case sd2 => walk_at "side"))
  | ((with_reducible refine' Dl.mo_extendF ?sd ?sd2 ?_); (case sd => exact rfl); (case sd2 => walk_at "side"))
  | ((with_reducible refine' Dl.mo_reverse ?sd ?_); (case sd => exact rfl)))
local macro_rules | `(tactic| walk_at "isi") => `(tactic| with_reducible first | exact Dl.isi_non_int | exact Dl.isi_non_bool | exact Dl.isi_non_str | exact Dl.isi_non_list | exact Dl.isi_non_tuple | exact Dl.isi_bool_int | exact Dl.isi_bool_bool | exact Dl.isi_bool_str | exact Dl.isi_bool_list | exact Dl.isi_bool_tuple | exact Dl.isi_int_int | exact Dl.isi_int_bool | exact Dl.isi_int_str | exact Dl.isi_int_list | exact Dl.isi_int_tuple | exact Dl.isi_str_int | exact Dl.isi_str_bool | exact Dl.isi_str_str | exact Dl.isi_str_list | exact Dl.isi_str_tuple | exact Dl.isi_list_int | exact Dl.isi_list_bool | exact Dl.isi_list_str | exact Dl.isi_list_list | exact Dl.isi_list_tuple | exact Dl.isi_tup_int | exact Dl.isi_tup_bool | exact Dl.isi_tup_str | exact Dl.isi_tup_list | exact Dl.isi_tup_tuple)
local macro_rules | `(tactic| walk_at "nz") => `(tactic| first
  | (show Dl.Seq _ _ _ (Dl.Out.nx ⟨[_], _⟩))
  | (show Dl.Seq _ _ _ (Dl.Out.nx ⟨[_, _], _⟩))
  | (show Dl.Seq _ _ _ (Dl.Out.nx ⟨[_, _, _], _⟩))
  | (show Dl.Seq _ _ _ (Dl.Out.nx ⟨[_, _, _, _], _⟩))
  | (show Dl.Seq _ _ _ (Dl.Out.nx ⟨[_, _, _, _, _], _⟩))
  | (show Dl.Seq _ _ _ (Dl.Out.nx ⟨[_, _, _, _, _, _], _⟩))
  | (show Dl.Seq _ _ _ (Dl.Out.nx ⟨[_, _, _, _, _, _, _], _⟩))
  | (show Dl.Seq _ _ _ (Dl.Out.nx ⟨[_, _, _, _, _, _, _, _], _⟩))
  | (show Dl.Seq _ _ _ (Dl.Out.nx ⟨[_, _, _, _, _, _, _, _, _], _⟩))
  | (show Dl.Seq _ _ _ (Dl.Out.nx ⟨[_, _, _, _, _, _, _, _, _, _], _⟩))
  | (show Dl.Seq _ _ _ (Dl.Out.nx ⟨[_, _, _, _, _, _, _, _, _, _, _], _⟩))
  | (show Dl.Seq _ _ _ (Dl.Out.nx ⟨[_, _, _, _, _, _, _, _, _, _, _, _], _⟩))
  | (show Dl.Seq _ _ _ (Dl.Out.nx ⟨[_, _, _, _, _, _, _, _, _, _, _, _, _], _⟩))
  | (show Dl.Seq _ _ _ (Dl.Out.nx ⟨[_, _, _, _, _, _, _, _, _, _, _, _, _, _], _⟩))
  | (show Dl.Seq _ _ _ (Dl.Out.nx ⟨[_, _, _, _, _, _, _, _, _, _, _, _, _, _, _], _⟩))
  | (show Dl.Seq _ _ _ (Dl.Out.nx ⟨[_, _, _, _, _, _, _, _, _, _, _, _, _, _, _, _], _⟩))
  | (show Dl.Seq _ _ _ (Dl.Out.nx ⟨[_, _, _, _, _, _, _, _, _, _, _, _, _, _, _, _, _], _⟩))
  | (show Dl.Seq _ _ _ (Dl.Out.nx ⟨[_, _, _, _, _, _, _, _, _, _, _, _, _, _, _, _, _, _], _⟩)))
local macro_rules | `(tactic| walk_at "nzo") => `(tactic| first
  | (show Dl.Seq _ _ _ (Dl.Out.nx ⟨_, []⟩))
  | (show Dl.Seq _ _ _ (Dl.Out.nx ⟨_, [_]⟩))
  | (show Dl.Seq _ _ _ (Dl.Out.nx ⟨_, [_, _]⟩))
  | (show Dl.Seq _ _ _ (Dl.Out.nx ⟨_, [_, _, _]⟩)))
local macro_rules | `(tactic| walk_at "e") => `(tactic| first
  | ((with_reducible show Dl.WE _ _ _ _); walk_at "we")
  | ((with_reducible show Dl.RD _ _ _ _ _ _); walk_at "rd")
  | ((with_reducible show Dl.ID _ _ _ _ _); walk_at "id")
  | ((with_reducible show Dl.WA _ (_ :: _) _ _); refine Dl.wa_cons ?_)
  | ((with_reducible show Dl.WA _ [] _ _); refine Dl.wa_nil ?_)
  | ((with_reducible show Dl.CD _ _ _ _ _); walk_at "cd")
  | ((with_reducible show Dl.SD _ (Dl.Sl.sh (PyData.list _)) _ _ _ _); refine Dl.sd_LF ?_)
  | ((with_reducible show Dl.SD _ (Dl.Sl.sh (PyData.tuple _)) _ _ _ _); refine Dl.sd_T ?_)
  | ((with_reducible show Dl.UD _ _ _ _ _); refine Dl.ud_neg ?_)
  | ((with_reducible show Dl.W1 _ _ _ _); walk_at "w1")
  | ((with_reducible show Dl.WT _ _ _ _); walk_at "wt")
  | ((with_reducible show Dl.WW _ _ _ _); walk_at "ww")
  | ((with_reducible show Dl.WO _ none _ _); refine Dl.wo_none ?_)
  | ((with_reducible show Dl.WO _ (some _) _ _); refine Dl.wo_some ?_)
  | ((with_reducible show Dl.Tru _ (Dl.Sl.sh (PyData.bool _)) _); refine Dl.tru_i ?_)
  | ((with_reducible show Dl.Seq _ _ _ (Dl.Out.nx _)); first | (walk_at "nz"; (try walk_at "nzo"); refine Dl.seq_nx ?_) | refine Dl.seq_nx ?_)
  | ((with_reducible show Dl.Seq _ _ _ (Dl.Out.rt _ _)); refine Dl.seq_rt ?_)
  | ((with_reducible show Dl.Seq _ _ _ (Dl.Out.bk _)); refine Dl.seq_bk ?_)
  | ((with_reducible show Dl.Seq _ _ _ (Dl.Out.ct _)); refine Dl.seq_ct ?_)
  | ((with_reducible show Dl.JoinQ _ _ (Dl.Out.rt _ _)); refine Dl.join_rt ?_)
  | ((with_reducible show Dl.LoopQ _ _ (Dl.Out.rt _ _)); refine Dl.loop_rt ?_)
  | ((with_reducible show Dl.LoopQ _ _ (Dl.Out.bk _)); refine Dl.loop_bk ?_)
  | ((with_reducible show ∃ (i : Nat) (xs : List Dl.Sl) (y : Dl.Sl), _ ∧ _ ∧ _ ∧ _); refine ⟨_, _, _, rfl, (by first | rfl | assumption), rfl, ?_⟩)
  | ((with_reducible show ∃ (i : Nat) (xs : List Dl.Sl) (a : Int), _ ∧ _ ∧ _ ∧ _); refine ⟨_, _, _, rfl, (by first | rfl | assumption), rfl, ?_⟩)
  | ((with_reducible show ∃ (b : Int) (xs : List Dl.Sl), _ ∧ _ ∧ _); refine ⟨_, _, rfl, (by first | rfl | assumption), ?_⟩)
  | ((with_reducible show ∃ (i : Nat) (xs : List Dl.Sl), _ ∧ _ ∧ _); refine ⟨_, _, rfl, (by first | rfl | assumption), ?_⟩)
  | ((with_reducible show ∃ (a : Bool), Dl.Isi _ _ _ a ∧ _); refine ⟨_, (by walk_at "isi"), ?_⟩)
  | ((with_reducible show ∃ (a b : Bool), Dl.Isi _ _ _ a ∧ Dl.Isi _ _ _ b ∧ _); refine ⟨_, _, (by walk_at "isi"), (by walk_at "isi"), ?_⟩)
  | ((with_reducible show List.length _ ≤ 100000 ∧ _); refine ⟨by simp, ?_⟩)
  | ((with_reducible show (true = true → _) ∧ (true = false → _)); refine ⟨fun _ => ?_, fun h => Bool.noConfusion h⟩)
  | ((with_reducible show (false = true → _) ∧ (false = false → _)); refine ⟨fun h => Bool.noConfusion h, fun _ => ?_⟩)
  | ((with_reducible show (_ = true → _) ∧ (_ = false → _)); first | refine ⟨fun _ => ?_, fun h => Bool.noConfusion h⟩ | refine ⟨fun h => Bool.noConfusion h, fun _ => ?_⟩ | refine ⟨fun _ => ?_, fun h => absurd h (by decide)⟩ | refine ⟨fun h => absurd h (by decide), fun _ => ?_⟩)
  | ((with_reducible show Dl.WS _ _ _ _); first | refine Dl.ws_cons ?_ | refine Dl.ws_nil ?_)
  | ((with_reducible show ∃ (a : Nat) (b : List Dl.Sl) (c : Int) (d : Nat), _); refine ⟨_, _, _, _, rfl, rfl, rfl, rfl, ?_⟩)
  | ((with_reducible show ∃ (a : Nat) (b : List Dl.Sl), _ = Dl.Sl.ob a ∧ _); refine ⟨_, _, rfl, rfl, ?_⟩)
  | ((with_reducible show Dl.MO _ _ _ _ _ _); walk_at "mo")
  | ((with_reducible show ∃ (a : List PyData), Dl.allSh _ = some a ∧ _); refine ⟨_, rfl, ?_⟩)
  | ((with_reducible show ∃ (a : Int), _); refine ⟨_, rfl, ?_⟩))
local macro_rules | `(tactic| walk_at "dl") => `(tactic| first | ((with_reducible show Dl.W1 _ (Stmt.Assign [Expr.Subscript _ _ _] _ _) _ _); refine Dl.w1_setIx ?_) | walk_at "d")
local macro_rules | `(tactic| walk_at "d") => `(tactic| first | ((with_reducible show Dl.WE _ (Expr.List _ _) _ _); refine Dl.we_lstF ?_) | walk_at "e")
local macro_rules | `(tactic| walk_at "co") => `(tactic| first | ((with_reducible refine Dl.rd_catO ?sd ?_); (case sd => walk_at "side")) | walk_at "d")
local macro_rules | `(tactic| walk_at "lo") => `(tactic| first | ((with_reducible show Dl.CD _ (Value.type "list") _ _ _); first | refine Dl.cd_listLO ?_ | refine Dl.cd_listTO ?_) | walk_at "e")

namespace K01
open PySem PySem.Spec Dl
open L2 hiding WE XE Takes CX
open PyProof.Rows hiding St

-- 0: __name__ = 'ringproofs.errors'
-- 1: class RingError(ValueError):
/-! __init__ -/
def N_RingError_init : List Str := ["self", "what"]
theorem sc_RingError_init : FnScope N_RingError_init ["self", "what"] (defScope s_RingError_init) := ⟨rfl, rfl, rfl, by decide +kernel, rfl, by decide +kernel, by decide +kernel⟩
abbrev p_RingError_init : List Str := ["self", "what"]
abbrev l_RingError_init : List (Str × Nat) := [("self", 0), ("what", 1)]
theorem nm_RingError_init : l_RingError_init.all (nmB N_RingError_init (defScope s_RingError_init)) = true := by decide +kernel
theorem ns_RingError_init : l_RingError_init.all (nsB N_RingError_init (defScope s_RingError_init)) = true := by decide +kernel
abbrev g_RingError_init : List Str := ["ValueError"]
theorem gn_RingError_init : g_RingError_init.all (gnB (defScope s_RingError_init)) = true := by decide +kernel
-- 3: class BadText(RingError):
-- 4: class BadRow(RingError):
-- 5: class Clash(RingError):
-- 6: class NoRule(RingError):
-- 7: class BadStep(RingError):
-- 8: class BadChart(RingError):
-- 9: class Leans(RingError):
-- 10: class NotLetBy(RingError):
-- 11: class NoWorld(RingError):
-- 12: class TooLong(RingError):
-- 13: class Known(RingError):
-- 14: class Unknown(RingError):
-- 15: class TooMany(RingError):
-- 16: class Leant(RingError):
-- 17: class BadDeed(RingError):
-- 18: SIZE = 3
-- 19: SHELF = 8
-- 20: __name__ = 'law_ringproofs_k01_words_and_refusals'
/-! _law_box -/
def N_box : List Str := ["_law_script", "_law_k", "_law_cell"]
theorem sc_box : FnScope N_box ["_law_script", "_law_k"] (defScope s_box) := ⟨rfl, rfl, rfl, by decide +kernel, rfl, by decide +kernel, by decide +kernel⟩
abbrev p_box : List Str := ["_law_script", "_law_k"]
abbrev l_box : List (Str × Nat) := [("_law_script", 0), ("_law_k", 1), ("_law_cell", 2)]
theorem nm_box : l_box.all (nmB N_box (defScope s_box)) = true := by decide +kernel
theorem ns_box : l_box.all (nsB N_box (defScope s_box)) = true := by decide +kernel
abbrev g_box : List Str := ["len", "abs", "int"]
theorem gn_box : g_box.all (gnB (defScope s_box)) = true := by decide +kernel
/-! _law_take -/
def N_take : List Str := ["_law_box_here", "_law_reach", "_law_found", "_law_once"]
theorem sc_take : FnScope N_take ["_law_box_here", "_law_reach"] (defScope s_take) := ⟨rfl, rfl, rfl, by decide +kernel, rfl, by decide +kernel, by decide +kernel⟩
abbrev p_take : List Str := ["_law_box_here", "_law_reach"]
abbrev l_take : List (Str × Nat) := [("_law_box_here", 0), ("_law_reach", 1), ("_law_found", 2), ("_law_once", 3)]
theorem nm_take : l_take.all (nmB N_take (defScope s_take)) = true := by decide +kernel
theorem ns_take : l_take.all (nsB N_take (defScope s_take)) = true := by decide +kernel
abbrev g_take : List Str := []
theorem gn_take : g_take.all (gnB (defScope s_take)) = true := by decide +kernel
/-! _law_pick -/
def N_pick : List Str := ["_law_box_here", "_law_things"]
theorem sc_pick : FnScope N_pick ["_law_box_here", "_law_things"] (defScope s_pick) := ⟨rfl, rfl, rfl, by decide +kernel, rfl, by decide +kernel, by decide +kernel⟩
abbrev p_pick : List Str := ["_law_box_here", "_law_things"]
abbrev l_pick : List (Str × Nat) := [("_law_box_here", 0), ("_law_things", 1)]
theorem nm_pick : l_pick.all (nmB N_pick (defScope s_pick)) = true := by decide +kernel
theorem ns_pick : l_pick.all (nsB N_pick (defScope s_pick)) = true := by decide +kernel
abbrev g_pick : List Str := ["_law_take", "len"]
theorem gn_pick : g_pick.all (gnB (defScope s_pick)) = true := by decide +kernel
/-! _law_same -/
def N_same : List Str := ["_law_found", "_law_due", "_law_one", "_law_two"]
theorem sc_same : FnScope N_same ["_law_found", "_law_due"] (defScope s_same) := ⟨rfl, rfl, rfl, by decide +kernel, rfl, by decide +kernel, by decide +kernel⟩
abbrev p_same : List Str := ["_law_found", "_law_due"]
abbrev l_same : List (Str × Nat) := [("_law_found", 0), ("_law_due", 1)]
theorem nm_same : l_same.all (nmB N_same (defScope s_same)) = true := by decide +kernel
theorem ns_same : l_same.all (nsB N_same (defScope s_same)) = true := by decide +kernel
abbrev g_same : List Str := ["isinstance", "list", "tuple", "len", "all", "zip", "str", "int", "bool"]
theorem gn_same : g_same.all (gnB (defScope s_same)) = true := by decide +kernel
/-! _law_made -/
def N_made : List Str := ["_law_way", "_law_own"]
theorem sc_made : FnScope N_made ["_law_way", "_law_own"] (defScope s_made) := ⟨rfl, rfl, rfl, by decide +kernel, rfl, by decide +kernel, by decide +kernel⟩
abbrev p_made : List Str := ["_law_way", "_law_own"]
abbrev l_made : List (Str × Nat) := [("_law_way", 0), ("_law_own", 1)]
theorem nm_made : l_made.all (nmB N_made (defScope s_made)) = true := by decide +kernel
theorem ns_made : l_made.all (nsB N_made (defScope s_made)) = true := by decide +kernel
abbrev g_made : List Str := ["BadText", "BadRow", "Clash", "NoRule", "BadStep", "BadChart", "Leans", "NotLetBy", "_law_made_more"]
theorem gn_made : g_made.all (gnB (defScope s_made)) = true := by decide +kernel
/-! _law_made_more -/
def N_made_more : List Str := ["_law_way", "_law_own"]
theorem sc_made_more : FnScope N_made_more ["_law_way", "_law_own"] (defScope s_made_more) := ⟨rfl, rfl, rfl, by decide +kernel, rfl, by decide +kernel, by decide +kernel⟩
abbrev p_made_more : List Str := ["_law_way", "_law_own"]
abbrev l_made_more : List (Str × Nat) := [("_law_way", 0), ("_law_own", 1)]
theorem nm_made_more : l_made_more.all (nmB N_made_more (defScope s_made_more)) = true := by decide +kernel
theorem ns_made_more : l_made_more.all (nsB N_made_more (defScope s_made_more)) = true := by decide +kernel
abbrev g_made_more : List Str := ["NoWorld", "TooLong", "Known", "Unknown", "TooMany", "Leant", "BadDeed"]
theorem gn_made_more : g_made_more.all (gnB (defScope s_made_more)) = true := by decide +kernel
/-! _law_kinds -/
def N_kinds : List Str := ["_law_caught", "_law_found"]
theorem sc_kinds : FnScope N_kinds ["_law_caught"] (defScope s_kinds) := ⟨rfl, rfl, rfl, by decide +kernel, rfl, by decide +kernel, by decide +kernel⟩
abbrev p_kinds : List Str := ["_law_caught"]
abbrev l_kinds : List (Str × Nat) := [("_law_caught", 0), ("_law_found", 1)]
theorem nm_kinds : l_kinds.all (nmB N_kinds (defScope s_kinds)) = true := by decide +kernel
theorem ns_kinds : l_kinds.all (nsB N_kinds (defScope s_kinds)) = true := by decide +kernel
abbrev g_kinds : List Str := ["isinstance", "BadText", "BadRow", "Clash", "NoRule", "BadStep", "BadChart", "Leans", "NotLetBy", "NoWorld", "TooLong", "Known", "Unknown", "TooMany", "Leant", "BadDeed"]
theorem gn_kinds : g_kinds.all (gnB (defScope s_kinds)) = true := by decide +kernel
/-! _law_thing -/
def N_thing : List Str := ["_law_box_here", "_law_things"]
theorem sc_thing : FnScope N_thing ["_law_box_here"] (defScope s_thing) := ⟨rfl, rfl, rfl, by decide +kernel, rfl, by decide +kernel, by decide +kernel⟩
abbrev p_thing : List Str := ["_law_box_here"]
abbrev l_thing : List (Str × Nat) := [("_law_box_here", 0), ("_law_things", 1)]
theorem nm_thing : l_thing.all (nmB N_thing (defScope s_thing)) = true := by decide +kernel
theorem ns_thing : l_thing.all (nsB N_thing (defScope s_thing)) = true := by decide +kernel
abbrev g_thing : List Str := ["_law_take", "_law_pick"]
theorem gn_thing : g_thing.all (gnB (defScope s_thing)) = true := by decide +kernel
/-! law -/
def N_law : List Str := ["_law_script", "_law_k", "_law_box_here", "_law_way", "_law_own", "_law_other", "_law_made_here", "_law_beside", "_law_one", "_law_due", "_law_at"]
theorem sc_law : FnScope N_law ["_law_script"] (defScope s_law) := ⟨rfl, rfl, rfl, by decide +kernel, rfl, by decide +kernel, by decide +kernel⟩
abbrev p_law : List Str := ["_law_script"]
abbrev l_law : List (Str × Nat) := [("_law_script", 0), ("_law_k", 1), ("_law_box_here", 2), ("_law_way", 3), ("_law_own", 4), ("_law_other", 5), ("_law_made_here", 6), ("_law_beside", 7), ("_law_one", 8), ("_law_due", 9)]
theorem nm_law : l_law.all (nmB N_law (defScope s_law)) = true := by decide +kernel
theorem ns_law : l_law.all (nsB N_law (defScope s_law)) = true := by decide +kernel
abbrev g_law : List Str := ["_law_same", "SIZE", "SHELF", "range", "max", "min", "len", "_law_box", "_law_thing", "_law_made", "_law_kinds", "isinstance", "RingError", "ValueError", "KeyError", "TypeError", "IndexError"]
theorem gn_law : g_law.all (gnB (defScope s_law)) = true := by decide +kernel

/-! ### what is drawn -/
theorem atI_ex {ds : List PyData} {r : Int} (h0 : 0 ≤ r) (h1 : r < ds.length) : ∃ d, atI ds r = some d ∧ d ∈ ds := by
  obtain ⟨j, rfl⟩ := Int.eq_ofNat_of_zero_le h0
  have hk : j < ds.length := by omega
  exact ⟨ds[j], atI_nat (List.getElem?_eq_getElem hk), List.getElem_mem hk⟩
theorem rngL_len (lo : Int) (n : Nat) : (rngL lo n).length = n := by simp [rngL]
theorem rngL_get {lo : Int} {n i : Nat} {y : Sl} (h : (rngL lo n)[i]? = some y) : i < n ∧ y = .sh (.int (lo + (i : Int))) := by
  have hi : i < n := by
    have := (List.getElem?_eq_some_iff.mp h).1
    rw [rngL_len] at this
    exact this
  unfold rngL at h
  rw [List.getElem?_map, List.getElem?_range hi] at h
  exact ⟨hi, (Option.some.inj h).symm⟩
theorem atI_ints {ns : List Int} {k : Int} (h0 : 0 ≤ k) (h1 : k < ns.length) : ∃ n, atI (ns.map PyData.int) k = some (.int n) := by
  obtain ⟨j, rfl⟩ := Int.eq_ofNat_of_zero_le h0
  have hk : j < ns.length := by omega
  refine ⟨ns[j], atI_nat ?_⟩
  rw [List.getElem?_map, List.getElem?_eq_getElem hk]
  rfl
theorem cut_to {ds : List PyData} {j : Nat} (h : j ≤ ds.length) : cutL ds none (some (j : Int)) = ds.take j := by
  unfold cutL
  rw [HT.sIx_none, HT.sIx_nat, List.drop_zero, Nat.sub_zero, Nat.min_eq_left h]
theorem cut_from (ds : List PyData) (j : Nat) : cutL ds (some (j : Int)) none = ds.drop j := by
  unfold cutL
  rw [HT.sIx_none, HT.sIx_nat]
  by_cases h : j ≤ ds.length
  · rw [Nat.min_eq_left h, List.take_of_length_le (by simp)]
  · rw [Nat.min_eq_right (by omega), Nat.sub_self, List.take_zero, List.drop_eq_nil_of_le (by omega)]
theorem cut_tail (d : PyData) (ds : List PyData) : cutL (d :: ds) (some 1) none = ds := cut_from (d :: ds) 1
theorem room_fit {k : Nat} {A : Around} (r : RoomG k A) : A.units + 64 < cLine := by
  have := r.r.un
  omega
theorem room_one {k : Nat} {A : Around} (r : RoomG k A) : A.units + 1 < cLine := by
  have := r.r.un
  omega
def preTake : List PyData → Prop := fun ds => ∃ n : Int, ds = [.int n] ∧ 0 < n ∧ n < 1073741824
def postTake : List PyData → PyData → Prop := fun ds d => ∃ n r : Int, ds = [.int n] ∧ d = .int r ∧ 0 ≤ r ∧ r < n
def RBox : Rl := fun xs om Q => ∃ (ns : List Int) (k : Int), xs = [.sh (.list (ns.map .int)), .sh (.int k)] ∧ om = [] ∧ 0 ≤ k ∧ k ≤ 63 ∧ ∀ b : Bx, b.G → b.c + 1000000000 ≤ 1099511627776 → Q (.ob 0) [b.o]
def prePick : List PyData → Prop := fun ds => ∃ ts : List PyData, ds = [.list ts] ∧ 0 < ts.length ∧ ts.length < 100000
def postPick : List PyData → PyData → Prop := fun ds d => ∃ ts : List PyData, ds = [.list ts] ∧ d ∈ ts
section
variable {P : Program} {w : World} {K : PySem.W.Frag} {mg : Str → Option Value} {base : Heap}
theorem fn_take {f : Addr} {fd : FuncData} (F : Fun K "_law_take" "_law_take" s_take f fd) (B : Bare mg)  : FnG P w K mg base CX0 (1) f fd p_take (spD K p_take.length (BoxE preTake 1 postTake)) := by
  refine fn_okM F sc_take nm_take ns_take gn_take (fun X g hnx hnr tpx nm ns gn xs om Qd hl hR => ?_)
  have hr := g.room
  obtain ⟨_, _, _, _, _⟩ := nm
  obtain ⟨n_box_here, n_reach, n_found, n_once, _⟩ := ns
  obtain ⟨b, ds, rfl, rfl, hG, hc, ⟨n, rfl, h0, h1⟩, hq⟩ := hR
  have ha0 := hG.a0
  have hs0 := hG.s0
  have hs1 := hG.s1
  have hc0 := hG.c0
  show WS _ _ ⟨[.ob 0, .sh (.int n), .no, .no], [b.o]⟩ _
  repeat walk_at "dl"
  refine ⟨fun hc => ?_, fun hc => ?_⟩
  · repeat walk_at "dl"
    exact fin_sh rfl (hq _ ⟨b.a / n, b.s, b.c⟩ ⟨n, b.a % n, rfl, rfl, Int.emod_nonneg _ (by omega), Int.emod_lt_of_pos _ h0⟩ ⟨Int.ediv_nonneg ha0 (by omega), hs0, hs1, hc0⟩ (by show b.c ≤ b.c + ((1 : Nat) : Int); omega))
  · repeat walk_at "dl"
    exact fin_sh rfl (hq _ ⟨b.a, b.s, b.c + 1⟩ ⟨n, _, rfl, rfl, Int.emod_nonneg _ (by omega), Int.emod_lt_of_pos _ h0⟩ ⟨ha0, hs0, hs1, by show 0 ≤ b.c + 1; omega⟩ (by show b.c + 1 ≤ b.c + ((1 : Nat) : Int); omega))
theorem fn_box {f : Addr} {fd : FuncData} (F : Fun K "_law_box" "_law_box" s_box f fd) (B : Bare mg)  : FnG P w K mg base CX0 (1) f fd p_box (spD K p_box.length (RBox)) := by
  refine fn_okM F sc_box nm_box ns_box gn_box (fun X g hnx hnr tpx nm ns gn xs om Qd hl hR => ?_)
  have hr := g.room
  obtain ⟨_, _, _, _⟩ := nm
  obtain ⟨n_script, n_k, n_cell, _⟩ := ns
  obtain ⟨g_len, g_abs, g_int, _⟩ := gn
  have b_len := g.bi g_len B.len PySem.boot_len
  have b_abs := g.bi g_abs B.abs PyProof.Rows.boot_abs
  have b_int := g.bt g_int B.int PyProof.Rows.boot_int
  obtain ⟨ns, k, rfl, rfl, h0, h1, hq⟩ := hR
  show WS _ _ ⟨[.sh (.list (ns.map .int)), .sh (.int k), .no], []⟩ _
  iterate 4 walk_at "e"
  refine ws_join (fun z => ∃ c : Int, z = ⟨[.sh (.list (ns.map .int)), .sh (.int k), .sh (.int c)], []⟩) ?_ ?_
  · repeat walk_at "e"
    refine ⟨fun hc => ?_, fun hc => ?_⟩
    · have hc : k < ((ns.map PyData.int).length : Int) := of_decide_eq_true hc
      obtain ⟨n, hn⟩ := atI_ints h0 (by rw [List.length_map] at hc; exact hc)
      repeat walk_at "e"
      refine id_L hn ?_
      repeat walk_at "e"
      exact join_nx ⟨_, rfl⟩
    · repeat walk_at "e"
      exact join_nx ⟨_, rfl⟩
  · rintro z ⟨c, rfl⟩
    repeat walk_at "e"
    refine we_lst ?_
    have hp : (10 : Int) ^ (18 : Int).toNat = 1000000000000000000 := by decide
    have hm0 := Int.emod_nonneg c (show (2147483629 : Int) ≠ 0 by decide)
    have hm1 := Int.emod_lt_of_pos c (show (0 : Int) < 2147483629 by decide)
    repeat walk_at "e"
    refine fin_new (Nat.zero_le _) rfl rfl rfl ?_
    refine hq ⟨_, _, 0⟩ ⟨Int.mul_nonneg ?_ ?_, ?_, ?_, Int.le_refl 0⟩ (by show (0 : Int) + 1000000000 ≤ _; decide)
    · split <;> omega
    · (repeat' split) <;> omega
    · show (0 : Int) ≤ _ + _ + _; omega
    · show _ + _ + _ < (1099511627776 : Int); omega
end

section
variable {P : Program} {w : World} {K : PySem.W.Frag} {mg : Str → Option Value} {base : Heap}
theorem fn_pick {f : Addr} {fd : FuncData} (F : Fun K "_law_pick" "_law_pick" s_pick f fd) (B : Bare mg) (D_take : Df P w K mg base "_law_take" (1) p_take (BoxE preTake 1 postTake)) : FnG P w K mg base CX0 (2) f fd p_pick (spD K p_pick.length (BoxE prePick 1 postPick)) := by
  refine fn_okM F sc_pick nm_pick ns_pick gn_pick (fun X g hnx hnr tpx nm ns gn xs om Qd hl hR => ?_)
  have hr := g.room
  obtain ⟨_, _, _⟩ := nm
  obtain ⟨n_box_here, n_things, _⟩ := ns
  obtain ⟨g_take, g_len, _⟩ := gn
  have c_take := g.cf g_take D_take
  have b_len := g.bi g_len B.len PySem.boot_len
  obtain ⟨b, ds, rfl, rfl, hG, hc, ⟨ts, rfl, h0, h1⟩, hq⟩ := hR
  show WS _ _ ⟨[.ob 0, .sh (.list ts)], [b.o]⟩ _
  repeat walk_at "e"
  refine ⟨_, _, _, _, rfl, rfl, (by first | rfl | exact get_end _ _ | exact get_mid _ _ _ | exact get_mids _ _ _ | exact get_mids2 _ _ _ _), (by assumption), (by omega), ⟨_, rfl, by omega, by omega⟩, rfl, ?_⟩
  rintro _ b' ⟨_, r, e1, rfl, h0_r, h1_r⟩ hG_b' hc_b'
  cases e1
  try rw [set_end]
  try rw [set_mid]
  try rw [set_mids]
  try rw [set_mids2]
  obtain ⟨j, rfl⟩ := Int.eq_ofNat_of_zero_le h0_r
  have hj : j < ts.length := by omega
  refine id_L (atI_nat (List.getElem?_eq_getElem hj)) ?_
  repeat walk_at "e"
  exact fin_sh rfl (hq _ b' ⟨ts, rfl, List.getElem_mem hj⟩ hG_b' hc_b')
end

/-! ### alike, kind by kind -/
def sameF (n : Nat) : List PyData → PyData → Prop := fun ds r => ∃ d, ds = [d, d] ∧ Pd n d ∧ r = .bool true
theorem zipD_self (ds : List PyData) : zipD ds ds = ds.map fun d => [d, d] := by
  induction ds with
  | nil => rfl
  | cons d r ih => simp [zipD, ih]
section
variable {P : Program} {w : World} {K : PySem.W.Frag} {mg : Str → Option Value} {base : Heap}
theorem step_same {f : Addr} {fd : FuncData} (F : Fun K "_law_same" "_law_same" s_same f fd) (B : Bare mg)  (n : Nat) (hrec : ∀ m, m < n → Df P w K mg base "_law_same" (m + 1) p_same (PureR (sameF m))) : FnG P w K mg base CX0 (n + 1) f fd p_same (spD K p_same.length (PureR (sameF n))) := by
  refine fn_okM F sc_same nm_same ns_same gn_same (fun X g hnx hnr tpx nm ns gn xs om Qd hl hR => ?_)
  have hr := g.room
  obtain ⟨_, _, _⟩ := nm
  obtain ⟨n_found, n_due, _⟩ := ns
  obtain ⟨g_isinstance, g_list, g_tuple, g_len, g_all, g_zip, g_str, g_int, g_bool, _⟩ := gn
  have b_isinstance := g.bi g_isinstance B.isi PyProof.Rows.boot_isinstance
  have b_list := g.bt g_list B.list PyProof.Rows.boot_list
  have b_tuple := g.bt g_tuple B.tup PyProof.Rows.boot_tuple
  have b_len := g.bi g_len B.len PySem.boot_len
  have b_all := g.bi g_all B.all PyProof.Rows.boot_all
  have b_str := g.bt g_str B.str PyProof.Rows.boot_str
  have b_int := g.bt g_int B.int PyProof.Rows.boot_int
  have b_bool := g.bt g_bool B.bool PyProof.Rows.boot_bool
  obtain ⟨ds, r, rfl, rfl, ⟨d, rfl, hp, rfl⟩, hq⟩ := hR
  show WS _ _ ⟨[.sh d, .sh d, .no, .no], []⟩ _
  cases d with
  | none =>
    repeat walk_at "d"
    exact fin_sh rfl hq
  | str x =>
    repeat walk_at "d"
    rw [decide_eq_true (rfl : x = x)]
    repeat walk_at "d"
    exact fin_sh rfl hq
  | bool b =>
    repeat walk_at "d"
    rw [decide_eq_true (rfl : b = b)]
    exact fin_sh rfl hq
  | int i =>
    repeat walk_at "d"
    rw [decide_eq_true (rfl : i = i)]
    exact fin_sh rfl hq
  | dict kvs => cases n <;> exact hp.elim
  | list ds =>
    cases n with
    | zero => exact hp.elim
    | succ n =>
      repeat walk_at "d"
      refine ⟨fun h => ?_, fun _ => ?_⟩
      · simp at h
      repeat walk_at "d"
      with_reducible refine we_lcF (own := [("_law_one", 2), ("_law_two", 3)]) (g := gTup X.K 2 (gNames [2, 3])) g.nd ?lc1 ?lc2 ?_ g.calm ?lc4
      case lc4 => exact fun _ => rfl
      case lc1 => exact g.blk (by decide +kernel)
      case lc2 => exact fun s H C cl fp => g.bpg2 (by decide +kernel)
      refine wi_zip (by rw [g.mg]; exact B.zip) ?_ g_zip.g
      repeat walk_at "d"
      refine ⟨ds, ds, .ls ds ds, ?_⟩
      refine lcd_map (ds.map fun _ => .bool true) ?_ ?_ ?_ (fun i y d hy hd => ?_) ?_
      · simp [zipD_len]
      · simp [zipD_len]
        exact hp.1
      · trivial
      · rw [zipD_self, List.map_map, List.getElem?_map] at hy
        obtain ⟨a, ha, rfl⟩ := Option.map_eq_some_iff.mp hy
        rw [List.getElem?_map, ha] at hd
        cases hd
        refine gd_tp (ds := [a, a]) rfl (by simp) rfl rfl ?_
        intro s H C cl fp
        refine g.inB [("_law_one", 2), ("_law_two", 3)] ["_law_same"] (by decide +kernel) (by decide +kernel) fun nb gb => ?_
        obtain ⟨_, _, _⟩ := nb
        show WE _ _ ⟨[_, _, _, _], _⟩ _
        obtain ⟨h_same, _⟩ := gb
        have cs := g.bcf h_same (hrec n (Nat.lt_succ_self n))
        repeat walk_at "d"
        exact ⟨_, _, rfl, ⟨a, rfl, hp.2 a (List.mem_of_getElem? ha), rfl⟩, rfl, rfl, rfl⟩
      · repeat walk_at "d"
        refine cd_all (bs := ds.map fun _ => true) (by rw [← bls_map, List.map_map]; rfl) ?_ g.calm
        have e : (ds.map fun _ => true).all _root_.id = true := by simp
        rw [e]
        repeat walk_at "d"
        exact fin_sh rfl hq
  | tuple ds =>
    cases n with
    | zero => exact hp.elim
    | succ n =>
      repeat walk_at "d"
      refine ⟨fun h => ?_, fun _ => ?_⟩
      · simp at h
      repeat walk_at "d"
      with_reducible refine we_lcF (own := [("_law_one", 2), ("_law_two", 3)]) (g := gTup X.K 2 (gNames [2, 3])) g.nd ?lc1 ?lc2 ?_ g.calm ?lc4
      case lc4 => exact fun _ => rfl
      case lc1 => exact g.blk (by decide +kernel)
      case lc2 => exact fun s H C cl fp => g.bpg2 (by decide +kernel)
      refine wi_zip (by rw [g.mg]; exact B.zip) ?_ g_zip.g
      repeat walk_at "d"
      refine ⟨ds, ds, .ts ds ds, ?_⟩
      refine lcd_map (ds.map fun _ => .bool true) ?_ ?_ ?_ (fun i y d hy hd => ?_) ?_
      · simp [zipD_len]
      · simp [zipD_len]
        exact hp.1
      · trivial
      · rw [zipD_self, List.map_map, List.getElem?_map] at hy
        obtain ⟨a, ha, rfl⟩ := Option.map_eq_some_iff.mp hy
        rw [List.getElem?_map, ha] at hd
        cases hd
        refine gd_tp (ds := [a, a]) rfl (by simp) rfl rfl ?_
        intro s H C cl fp
        refine g.inB [("_law_one", 2), ("_law_two", 3)] ["_law_same"] (by decide +kernel) (by decide +kernel) fun nb gb => ?_
        obtain ⟨_, _, _⟩ := nb
        show WE _ _ ⟨[_, _, _, _], _⟩ _
        obtain ⟨h_same, _⟩ := gb
        have cs := g.bcf h_same (hrec n (Nat.lt_succ_self n))
        repeat walk_at "d"
        exact ⟨_, _, rfl, ⟨a, rfl, hp.2 a (List.mem_of_getElem? ha), rfl⟩, rfl, rfl, rfl⟩
      · repeat walk_at "d"
        refine cd_all (bs := ds.map fun _ => true) (by rw [← bls_map, List.map_map]; rfl) ?_ g.calm
        have e : (ds.map fun _ => true).all _root_.id = true := by simp
        rw [e]
        repeat walk_at "d"
        exact fin_sh rfl hq
theorem fn_same {f : Addr} {fd : FuncData} (F : Fun K "_law_same" "_law_same" s_same f fd) (hm : mg "_law_same" = some (.ref f)) (hb : Binds K fd p_same []) (B : Bare mg)  : ∀ n : Nat, Df P w K mg base "_law_same" (n + 1) p_same (PureR (sameF n)) := by
  intro n
  induction n using Nat.strongRecOn with
  | ind n ih => exact ⟨f, fd, step_same F B  n ih, hm, F.kp, hb⟩
end

/-! ### RingError.__init__ -/
section
variable {P : Program} {w : World} {K : PySem.W.Frag} {mg : Str → Option Value} {base : Heap}
theorem ps_ringInit {X : Cy} (eN : X.N = N_RingError_init) (es : X.env.scope = defScope s_RingError_init) (em : X.mg = mg) (eK : X.K = K) (hV : mg "ValueError" = none)
    (vV : PySem.W.findCls K (.type "ValueError") (.type "type") "__init__" = some (.val (.builtin "ValueError.__init__"))) {vs : List V} {H : Hp} {Q : VK} (hsp : initX K vs H Q E0) :
    ∃ t, PSs X.toCx (defBody s_RingError_init) t ∧ t { nx := fun _ H' => Q .non H', rt := Q } (L2.start N_RingError_init vs) H := by
  obtain ⟨hl, a, C, v, rfl, ox, no, ha, hq⟩ := hsp
  have nm := nms_of (X := X) eN es nm_RingError_init
  have gn := gns_of (X := X) es gn_RingError_init
  obtain ⟨n1, n2, _⟩ := nm
  obtain ⟨g1, _⟩ := gn
  subst em eK
  refine ⟨_, pss_cons (ps_expr (pe_veinit g1.g hV vV (pa_cons (pe_var n1.n n1.v n1.d n1.c) (pa_cons pe_str pa_nil)))) (pss_cons (ps_ost (pe_var n1.n n1.v n1.d n1.c) (pe_var n2.n n2.v n2.d n2.c)) pss_nil), ?_⟩
  exact ⟨.ref a, rfl, ⟨a, C, [.str "it is refused"], rfl, by simp, ox, ha, ⟨v, rfl, ⟨.ref a, rfl, ⟨a, C, rfl, ox, no, .inl ⟨ha, fun dx n ne => hq dx n ne⟩⟩⟩⟩⟩⟩
theorem fn_ringInit {f : Addr} {fd : FuncData} (F : Fun K "__init__" "RingError.__init__" s_RingError_init f fd) (hV : mg "ValueError" = none)
    (vV : PySem.W.findCls K (.type "ValueError") (.type "type") "__init__" = some (.val (.builtin "ValueError.__init__"))) : FnB P w K mg base 1 f fd p_RingError_init (initX K) := by
  obtain ⟨_, _, _, _, _, _, cdv, _, _, rfl, lk, hcd⟩ := F.ex
  refine fnB_of lk hcd sc_RingError_init (fun vs H Q E h => h.1) (fun A outer s H vs Q hsp => ?_) (fun A outer s H vs Q p hsp => ?_)
  · exact ps_ringInit (X := ⟨cxOf CX0 P w K mg base N_RingError_init "RingError.__init__" (defScope s_RingError_init) f cdv A outer s H E0, fun _ _ _ => False, false⟩) rfl rfl rfl rfl hV vV hsp
  · exact ps_ringInit (X := ⟨L2H.cxH CX0 P w K mg base N_RingError_init "RingError.__init__" (defScope s_RingError_init) f cdv A outer s H E0 p, fun _ _ _ => False, false⟩) rfl rfl rfl rfl hV vV hsp
end

/-! ### fifteen classes -/
structure ErrK (K : PySem.W.Frag) (cl : List Addr) (aR : Addr) : Prop where
  xc : ∀ C ∈ cl, XcC K C
  kk : ∀ (i j : Nat) (C D : Addr), cl[i]? = some C → cl[j]? = some D → PySem.W.kitOne K (.ref C) (.ref D) = some (decide (i = j))
  kr : ∀ C ∈ cl, PySem.W.kitOne K (.ref C) (.ref aR) = some true
  kv : ∀ C ∈ cl, PySem.W.kitOne K (.ref C) (.type "ValueError") = some true
  k1 : ∀ C ∈ cl, PySem.W.kitOne K (.ref C) (.type "KeyError") = some false
  k2 : ∀ C ∈ cl, PySem.W.kitOne K (.ref C) (.type "TypeError") = some false
  k3 : ∀ C ∈ cl, PySem.W.kitOne K (.ref C) (.type "IndexError") = some false
def RMade (lo : Nat) (cl : List Addr) : Rl := fun xs om Q => ∃ (way : Nat) (dat : PyData) (C : Addr), xs = [.sh (.int way), .sh dat] ∧ om = [] ∧ lo ≤ way ∧ way < 15 ∧ cl[way]? = some C ∧ Q (.ob 0) [.lst [.ex C dat, .ex C dat]]
def kindsL (i : Nat) : List PyData := (List.range 15).map fun j => .bool (decide (i = j))
def RKinds (cl : List Addr) : Rl := fun xs om Q => ∃ (i : Nat) (C : Addr) (dat : PyData), xs = [.ex C dat] ∧ om = [] ∧ cl[i]? = some C ∧ Q (.sh (.list (kindsL i))) []
local macro_rules | `(tactic| walk_at "x") => `(tactic| first
  | ((with_reducible show Dl.ExcQ _ _ _ _); refine ⟨_, rfl, ?_⟩)
  | ((with_reducible show Dl.WE _ (Expr.List _ _) _ _); refine Dl.we_lst ?_)
  | ((with_reducible show Dl.WE _ (Expr.Call (Expr.Name _ _) [_] [] _) _ _); refine Dl.we_exc (by assumption) hr (by omega) g.calm tpx.ex (by assumption) ?_)
  | ((with_reducible show Dl.WE _ (Expr.Call (Expr.Name _ _) [] [_] _) _ _); refine Dl.we_excW (by assumption) hr (by omega) g.calm tpx.ex (by assumption) ?_)
  | walk_at "e")
section
variable {P : Program} {w : World} {K : PySem.W.Frag} {mg : Str → Option Value} {base : Heap}
theorem fn_made_more {f : Addr} {fd : FuncData} (F : Fun K "_law_made_more" "_law_made_more" s_made_more f fd) (B : Bare mg) (KX_NoWorld : Kx P w K mg base "NoWorld" 1 a_NoWorld) (KX_TooLong : Kx P w K mg base "TooLong" 1 a_TooLong) (KX_Known : Kx P w K mg base "Known" 1 a_Known) (KX_Unknown : Kx P w K mg base "Unknown" 1 a_Unknown) (KX_TooMany : Kx P w K mg base "TooMany" 1 a_TooMany) (KX_Leant : Kx P w K mg base "Leant" 1 a_Leant) (KX_BadDeed : Kx P w K mg base "BadDeed" 1 a_BadDeed) : FnG P w K mg base CX0 (3) f fd p_made_more (spD K p_made_more.length (RMade 8 [a_BadText, a_BadRow, a_Clash, a_NoRule, a_BadStep, a_BadChart, a_Leans, a_NotLetBy, a_NoWorld, a_TooLong, a_Known, a_Unknown, a_TooMany, a_Leant, a_BadDeed])) := by
  refine fn_okM F sc_made_more nm_made_more ns_made_more gn_made_more (fun X g hnx hnr tpx nm ns gn xs om Qd hl hR => ?_)
  have hr := g.room
  obtain ⟨_, _, _⟩ := nm
  obtain ⟨n_way, n_own, _⟩ := ns
  obtain ⟨g_NoWorld, g_TooLong, g_Known, g_Unknown, g_TooMany, g_Leant, g_BadDeed, _⟩ := gn
  obtain ⟨way, dat, C, rfl, rfl, h8, h15, hC, hq⟩ := hR
  have kx_NoWorld := g.kx KX_NoWorld
  have kx_TooLong := g.kx KX_TooLong
  have kx_Known := g.kx KX_Known
  have kx_Unknown := g.kx KX_Unknown
  have kx_TooMany := g.kx KX_TooMany
  have kx_Leant := g.kx KX_Leant
  have kx_BadDeed := g.kx KX_BadDeed
  have hcase : way = 8 ∨ way = 9 ∨ way = 10 ∨ way = 11 ∨ way = 12 ∨ way = 13 ∨ way = 14 := by omega
  show WS _ _ ⟨[.sh (.int way), .sh dat], []⟩ _
  rcases hcase with rfl | rfl | rfl | rfl | rfl | rfl | rfl
  all_goals cases hC
  · repeat walk_at "x"
    exact fin_all hq
  · repeat walk_at "x"
    exact fin_all hq
  · repeat walk_at "x"
    exact fin_all hq
  · repeat walk_at "x"
    exact fin_all hq
  · repeat walk_at "x"
    exact fin_all hq
  · repeat walk_at "x"
    exact fin_all hq
  · repeat walk_at "x"
    exact fin_all hq
end
section
variable {P : Program} {w : World} {K : PySem.W.Frag} {mg : Str → Option Value} {base : Heap}
theorem fn_made {f : Addr} {fd : FuncData} (F : Fun K "_law_made" "_law_made" s_made f fd) (B : Bare mg) (D_made_more : Df P w K mg base "_law_made_more" (3) p_made_more (RMade 8 [a_BadText, a_BadRow, a_Clash, a_NoRule, a_BadStep, a_BadChart, a_Leans, a_NotLetBy, a_NoWorld, a_TooLong, a_Known, a_Unknown, a_TooMany, a_Leant, a_BadDeed])) (KX_BadText : Kx P w K mg base "BadText" 1 a_BadText) (KX_BadRow : Kx P w K mg base "BadRow" 1 a_BadRow) (KX_Clash : Kx P w K mg base "Clash" 1 a_Clash) (KX_NoRule : Kx P w K mg base "NoRule" 1 a_NoRule) (KX_BadStep : Kx P w K mg base "BadStep" 1 a_BadStep) (KX_BadChart : Kx P w K mg base "BadChart" 1 a_BadChart) (KX_Leans : Kx P w K mg base "Leans" 1 a_Leans) (KX_NotLetBy : Kx P w K mg base "NotLetBy" 1 a_NotLetBy) : FnG P w K mg base CX0 (4) f fd p_made (spD K p_made.length (RMade 0 [a_BadText, a_BadRow, a_Clash, a_NoRule, a_BadStep, a_BadChart, a_Leans, a_NotLetBy, a_NoWorld, a_TooLong, a_Known, a_Unknown, a_TooMany, a_Leant, a_BadDeed])) := by
  refine fn_okM F sc_made nm_made ns_made gn_made (fun X g hnx hnr tpx nm ns gn xs om Qd hl hR => ?_)
  have hr := g.room
  obtain ⟨_, _, _⟩ := nm
  obtain ⟨n_way, n_own, _⟩ := ns
  obtain ⟨g_BadText, g_BadRow, g_Clash, g_NoRule, g_BadStep, g_BadChart, g_Leans, g_NotLetBy, g_made_more, _⟩ := gn
  have c_made_more := g.cf g_made_more D_made_more
  obtain ⟨way, dat, C, rfl, rfl, h8, h15, hC, hq⟩ := hR
  have kx_BadText := g.kx KX_BadText
  have kx_BadRow := g.kx KX_BadRow
  have kx_Clash := g.kx KX_Clash
  have kx_NoRule := g.kx KX_NoRule
  have kx_BadStep := g.kx KX_BadStep
  have kx_BadChart := g.kx KX_BadChart
  have kx_Leans := g.kx KX_Leans
  have kx_NotLetBy := g.kx KX_NotLetBy
  show WS _ _ ⟨[.sh (.int way), .sh dat], []⟩ _
  by_cases hw : way < 8
  · have hcase : way = 0 ∨ way = 1 ∨ way = 2 ∨ way = 3 ∨ way = 4 ∨ way = 5 ∨ way = 6 ∨ way = 7 := by omega
    clear hw
    rcases hcase with rfl | rfl | rfl | rfl | rfl | rfl | rfl | rfl
    all_goals cases hC
    · repeat walk_at "x"
      exact fin_all hq
    · repeat walk_at "x"
      exact fin_all hq
    · repeat walk_at "x"
      exact fin_all hq
    · repeat walk_at "x"
      exact fin_all hq
    · repeat walk_at "x"
      exact fin_all hq
    · repeat walk_at "x"
      exact fin_all hq
    · repeat walk_at "x"
      exact fin_all hq
    · repeat walk_at "x"
      exact fin_all hq
  · have e0 : ∀ m : Nat, m < 8 → decide (((way : Nat) : Int) = (m : Int)) = false := fun m hm => decide_eq_false (by omega)
    repeat walk_at "x"
    refine ⟨fun h => absurd h (by rw [show decide (((way : Nat) : Int) = 0) = false from e0 0 (by decide)]; decide), fun _ => ?_⟩
    repeat walk_at "x"
    refine ⟨fun h => absurd h (by rw [show decide (((way : Nat) : Int) = 1) = false from e0 1 (by decide)]; decide), fun _ => ?_⟩
    repeat walk_at "x"
    refine ⟨fun h => absurd h (by rw [show decide (((way : Nat) : Int) = 2) = false from e0 2 (by decide)]; decide), fun _ => ?_⟩
    repeat walk_at "x"
    refine ⟨fun h => absurd h (by rw [show decide (((way : Nat) : Int) = 3) = false from e0 3 (by decide)]; decide), fun _ => ?_⟩
    repeat walk_at "x"
    refine ⟨fun h => absurd h (by rw [show decide (((way : Nat) : Int) = 4) = false from e0 4 (by decide)]; decide), fun _ => ?_⟩
    repeat walk_at "x"
    refine ⟨fun h => absurd h (by rw [show decide (((way : Nat) : Int) = 5) = false from e0 5 (by decide)]; decide), fun _ => ?_⟩
    repeat walk_at "x"
    refine ⟨fun h => absurd h (by rw [show decide (((way : Nat) : Int) = 6) = false from e0 6 (by decide)]; decide), fun _ => ?_⟩
    repeat walk_at "x"
    refine ⟨fun h => absurd h (by rw [show decide (((way : Nat) : Int) = 7) = false from e0 7 (by decide)]; decide), fun _ => ?_⟩
    refine we_cF c_made_more hr (by omega) ?_
    repeat walk_at "x"
    refine ⟨fun y om => y = .ob 0 ∧ om = [.lst [.ex C dat, .ex C dat]], rfl, ⟨way, dat, C, rfl, rfl, by omega, h15, hC, rfl, rfl⟩, rfl, ?_⟩
    rintro y om ⟨rfl, rfl⟩
    repeat walk_at "x"
    exact fin_all hq
end
section
variable {P : Program} {w : World} {K : PySem.W.Frag} {mg : Str → Option Value} {base : Heap}
theorem fn_kinds {f : Addr} {fd : FuncData} (F : Fun K "_law_kinds" "_law_kinds" s_kinds f fd) (B : Bare mg) (EK : ErrK K [a_BadText, a_BadRow, a_Clash, a_NoRule, a_BadStep, a_BadChart, a_Leans, a_NotLetBy, a_NoWorld, a_TooLong, a_Known, a_Unknown, a_TooMany, a_Leant, a_BadDeed] a_RingError) (MG_BadText : mg "BadText" = some (.ref a_BadText)) (MG_BadRow : mg "BadRow" = some (.ref a_BadRow)) (MG_Clash : mg "Clash" = some (.ref a_Clash)) (MG_NoRule : mg "NoRule" = some (.ref a_NoRule)) (MG_BadStep : mg "BadStep" = some (.ref a_BadStep)) (MG_BadChart : mg "BadChart" = some (.ref a_BadChart)) (MG_Leans : mg "Leans" = some (.ref a_Leans)) (MG_NotLetBy : mg "NotLetBy" = some (.ref a_NotLetBy)) (MG_NoWorld : mg "NoWorld" = some (.ref a_NoWorld)) (MG_TooLong : mg "TooLong" = some (.ref a_TooLong)) (MG_Known : mg "Known" = some (.ref a_Known)) (MG_Unknown : mg "Unknown" = some (.ref a_Unknown)) (MG_TooMany : mg "TooMany" = some (.ref a_TooMany)) (MG_Leant : mg "Leant" = some (.ref a_Leant)) (MG_BadDeed : mg "BadDeed" = some (.ref a_BadDeed)) : FnG P w K mg base CX0 (2) f fd p_kinds (spD K p_kinds.length (RKinds [a_BadText, a_BadRow, a_Clash, a_NoRule, a_BadStep, a_BadChart, a_Leans, a_NotLetBy, a_NoWorld, a_TooLong, a_Known, a_Unknown, a_TooMany, a_Leant, a_BadDeed])) := by
  refine fn_okM F sc_kinds nm_kinds ns_kinds gn_kinds (fun X g hnx hnr tpx nm ns gn xs om Qd hl hR => ?_)
  have hr := g.room
  obtain ⟨_, _, _⟩ := nm
  obtain ⟨n_caught, n_found, _⟩ := ns
  obtain ⟨g_isinstance, g_BadText, g_BadRow, g_Clash, g_NoRule, g_BadStep, g_BadChart, g_Leans, g_NotLetBy, g_NoWorld, g_TooLong, g_Known, g_Unknown, g_TooMany, g_Leant, g_BadDeed, _⟩ := gn
  have b_isinstance := g.bi g_isinstance B.isi PyProof.Rows.boot_isinstance
  obtain ⟨i, C, dat, rfl, rfl, hC, hq⟩ := hR
  have hi : i < 15 := (List.getElem?_eq_some_iff.mp hC).1
  have xc := EK.xc C (List.mem_of_getElem? hC)
  rw [← g.K] at xc
  have kc_BadText : ClsN X "BadText" (.ref a_BadText) (.ref a_BadText) := .own g_BadText (by rw [g.mg]; exact MG_BadText)
  have ki_BadText : PySem.W.kitOne X.K (.ref C) (.ref a_BadText) = some (decide (i = 0)) := by rw [g.K]; exact EK.kk i 0 C a_BadText hC rfl
  have kc_BadRow : ClsN X "BadRow" (.ref a_BadRow) (.ref a_BadRow) := .own g_BadRow (by rw [g.mg]; exact MG_BadRow)
  have ki_BadRow : PySem.W.kitOne X.K (.ref C) (.ref a_BadRow) = some (decide (i = 1)) := by rw [g.K]; exact EK.kk i 1 C a_BadRow hC rfl
  have kc_Clash : ClsN X "Clash" (.ref a_Clash) (.ref a_Clash) := .own g_Clash (by rw [g.mg]; exact MG_Clash)
  have ki_Clash : PySem.W.kitOne X.K (.ref C) (.ref a_Clash) = some (decide (i = 2)) := by rw [g.K]; exact EK.kk i 2 C a_Clash hC rfl
  have kc_NoRule : ClsN X "NoRule" (.ref a_NoRule) (.ref a_NoRule) := .own g_NoRule (by rw [g.mg]; exact MG_NoRule)
  have ki_NoRule : PySem.W.kitOne X.K (.ref C) (.ref a_NoRule) = some (decide (i = 3)) := by rw [g.K]; exact EK.kk i 3 C a_NoRule hC rfl
  have kc_BadStep : ClsN X "BadStep" (.ref a_BadStep) (.ref a_BadStep) := .own g_BadStep (by rw [g.mg]; exact MG_BadStep)
  have ki_BadStep : PySem.W.kitOne X.K (.ref C) (.ref a_BadStep) = some (decide (i = 4)) := by rw [g.K]; exact EK.kk i 4 C a_BadStep hC rfl
  have kc_BadChart : ClsN X "BadChart" (.ref a_BadChart) (.ref a_BadChart) := .own g_BadChart (by rw [g.mg]; exact MG_BadChart)
  have ki_BadChart : PySem.W.kitOne X.K (.ref C) (.ref a_BadChart) = some (decide (i = 5)) := by rw [g.K]; exact EK.kk i 5 C a_BadChart hC rfl
  have kc_Leans : ClsN X "Leans" (.ref a_Leans) (.ref a_Leans) := .own g_Leans (by rw [g.mg]; exact MG_Leans)
  have ki_Leans : PySem.W.kitOne X.K (.ref C) (.ref a_Leans) = some (decide (i = 6)) := by rw [g.K]; exact EK.kk i 6 C a_Leans hC rfl
  have kc_NotLetBy : ClsN X "NotLetBy" (.ref a_NotLetBy) (.ref a_NotLetBy) := .own g_NotLetBy (by rw [g.mg]; exact MG_NotLetBy)
  have ki_NotLetBy : PySem.W.kitOne X.K (.ref C) (.ref a_NotLetBy) = some (decide (i = 7)) := by rw [g.K]; exact EK.kk i 7 C a_NotLetBy hC rfl
  have kc_NoWorld : ClsN X "NoWorld" (.ref a_NoWorld) (.ref a_NoWorld) := .own g_NoWorld (by rw [g.mg]; exact MG_NoWorld)
  have ki_NoWorld : PySem.W.kitOne X.K (.ref C) (.ref a_NoWorld) = some (decide (i = 8)) := by rw [g.K]; exact EK.kk i 8 C a_NoWorld hC rfl
  have kc_TooLong : ClsN X "TooLong" (.ref a_TooLong) (.ref a_TooLong) := .own g_TooLong (by rw [g.mg]; exact MG_TooLong)
  have ki_TooLong : PySem.W.kitOne X.K (.ref C) (.ref a_TooLong) = some (decide (i = 9)) := by rw [g.K]; exact EK.kk i 9 C a_TooLong hC rfl
  have kc_Known : ClsN X "Known" (.ref a_Known) (.ref a_Known) := .own g_Known (by rw [g.mg]; exact MG_Known)
  have ki_Known : PySem.W.kitOne X.K (.ref C) (.ref a_Known) = some (decide (i = 10)) := by rw [g.K]; exact EK.kk i 10 C a_Known hC rfl
  have kc_Unknown : ClsN X "Unknown" (.ref a_Unknown) (.ref a_Unknown) := .own g_Unknown (by rw [g.mg]; exact MG_Unknown)
  have ki_Unknown : PySem.W.kitOne X.K (.ref C) (.ref a_Unknown) = some (decide (i = 11)) := by rw [g.K]; exact EK.kk i 11 C a_Unknown hC rfl
  have kc_TooMany : ClsN X "TooMany" (.ref a_TooMany) (.ref a_TooMany) := .own g_TooMany (by rw [g.mg]; exact MG_TooMany)
  have ki_TooMany : PySem.W.kitOne X.K (.ref C) (.ref a_TooMany) = some (decide (i = 12)) := by rw [g.K]; exact EK.kk i 12 C a_TooMany hC rfl
  have kc_Leant : ClsN X "Leant" (.ref a_Leant) (.ref a_Leant) := .own g_Leant (by rw [g.mg]; exact MG_Leant)
  have ki_Leant : PySem.W.kitOne X.K (.ref C) (.ref a_Leant) = some (decide (i = 13)) := by rw [g.K]; exact EK.kk i 13 C a_Leant hC rfl
  have kc_BadDeed : ClsN X "BadDeed" (.ref a_BadDeed) (.ref a_BadDeed) := .own g_BadDeed (by rw [g.mg]; exact MG_BadDeed)
  have ki_BadDeed : PySem.W.kitOne X.K (.ref C) (.ref a_BadDeed) = some (decide (i = 14)) := by rw [g.K]; exact EK.kk i 14 C a_BadDeed hC rfl
  show WS _ _ ⟨[.ex C dat, .no], []⟩ _
  repeat (first | ((with_reducible show WE _ (Expr.Call (Expr.Name _ _) [_, _] [] _) _ _); refine we_isx b_isinstance (by assumption) ?_) | ((with_reducible show ∃ (C : Addr) (dat : PyData) (r : Bool), _); refine ⟨_, _, _, rfl, xc, by assumption, ?_⟩) | walk_at "d")
  exact fin_sh rfl hq
end

def preThing : List PyData → Prop := fun ds => ds = []
def postThing : List PyData → PyData → Prop := fun _ d => Pd 3 d
theorem eqvAll_bools : ∀ L : List Nat, ∀ i : Nat, PyData.eqvAll (L.map fun j => .bool (decide (i = j))) (L.map fun j => .bool (decide (i = j))) = true
  | [], _ => by simp [PyData.eqvAll]
  | j :: L, i => by
    rw [List.map_cons]
    simp only [PyData.eqvAll, Bool.and_eq_true]
    exact ⟨by simp [PyData.eqv], eqvAll_bools L i⟩
theorem eqv_kinds (i : Nat) : PyData.eqv (.list (kindsL i)) (.list (kindsL i)) = true := by
  simp only [PyData.eqv]
  exact eqvAll_bools _ i
theorem canLay_bools : ∀ L : List Nat, ∀ i : Nat, PyData.canLayAll0 (L.map fun j => .bool (decide (i = j))) = true
  | [], _ => rfl
  | j :: L, i => by
    rw [List.map_cons]
    simp only [PyData.canLayAll0, PyData.canLay0, Bool.true_and]
    exact canLay_bools L i
theorem depth_bools : ∀ L : List Nat, ∀ i : Nat, PyData.depthAll (L.map fun j => .bool (decide (i = j))) ≤ 1
  | [], _ => by simp [PyData.depthAll]
  | j :: L, i => by
    rw [List.map_cons]
    simp only [PyData.depthAll, PyData.depth]
    have := depth_bools L i
    omega
theorem shaped_kinds (i : Nat) : SeqAt.shaped (.list (kindsL i)) = true := by
  unfold SeqAt.shaped
  rw [Bool.and_eq_true, decide_eq_true_eq]
  refine ⟨?_, ?_⟩
  · simp only [PyData.canLay0]
    exact canLay_bools _ i
  · have := depth_bools (List.range 15) i
    simp only [PyData.depth]
    unfold kindsL
    omega
def lawF : List PyData → PyData → Prop := fun ds r => ∃ ns : List Int, ds = [.list (ns.map .int)] ∧ r = .bool true
local macro_rules | `(tactic| walk_at "k") => `(tactic| first
  | ((with_reducible show WE _ (Expr.Call (Expr.Name _ _) [_, Expr.Name _ _] [] _) _ _); refine we_isx b_isinstance (by assumption) ?_)
  | ((with_reducible show WE _ (Expr.Call (Expr.Name _ _) [_, Expr.Tuple [_, _, _] _ _] [] _) _ _); refine we_isx3 b_isinstance kc_1 kc_2 kc_3 ?_)
  | ((with_reducible show ∃ (C : Addr) (dat : PyData) (r : Bool), _); refine ⟨_, _, _, rfl, xc, by assumption, ?_⟩)
  | ((with_reducible show ∃ (C : Addr) (dat : PyData) (r r2 r3 : Bool), _); refine ⟨_, _, _, _, _, rfl, xc, k1, k2, k3, ?_⟩)
  | walk_at "d")
section
variable {P : Program} {w : World} {K : PySem.W.Frag} {mg : Str → Option Value} {base : Heap}
theorem fn_thing {f : Addr} {fd : FuncData} (F : Fun K "_law_thing" "_law_thing" s_thing f fd) (B : Bare mg) (D_pick : Df P w K mg base "_law_pick" (2) p_pick (BoxE prePick 1 postPick)) (D_take : Df P w K mg base "_law_take" (1) p_take (BoxE preTake 1 postTake)) : FnG P w K mg base CX0 (4) f fd p_thing (spD K p_thing.length (BoxE preThing 3 postThing)) := by
  refine fn_okM F sc_thing nm_thing ns_thing gn_thing (fun X g hnx hnr tpx nm ns gn xs om Qd hl hR => ?_)
  have hr := g.room
  obtain ⟨_, _, _⟩ := nm
  obtain ⟨n_box_here, n_things, _⟩ := ns
  obtain ⟨g_take, g_pick, _⟩ := gn
  have c_take := g.cf g_take D_take
  have c_pick := g.cf g_pick D_pick
  obtain ⟨b, ds, rfl, rfl, hG, hc, rfl, hq⟩ := hR
  show WS _ _ ⟨[.ob 0, .no], [b.o]⟩ _
  repeat walk_at "d"
  refine ⟨_, _, _, _, rfl, rfl, (by first | rfl | exact get_end _ _ | exact get_mid _ _ _ | exact get_mids _ _ _ | exact get_mids2 _ _ _ _), (by assumption), (by omega), ⟨_, rfl, by omega, by omega⟩, rfl, ?_⟩
  rintro _ b1 ⟨_, r1, e1, rfl, h0_r1, h1_r1⟩ hG_b1 hc_b1
  cases e1
  try rw [set_end]
  try rw [set_mid]
  try rw [set_mids]
  try rw [set_mids2]
  repeat walk_at "d"
  refine ⟨_, _, _, _, rfl, rfl, (by first | rfl | exact get_end _ _ | exact get_mid _ _ _ | exact get_mids _ _ _ | exact get_mids2 _ _ _ _), (by assumption), (by omega), ⟨_, rfl, by omega, by omega⟩, rfl, ?_⟩
  rintro _ b2 ⟨_, r2, e1, rfl, h0_r2, h1_r2⟩ hG_b2 hc_b2
  cases e1
  try rw [set_end]
  try rw [set_mid]
  try rw [set_mids]
  try rw [set_mids2]
  repeat walk_at "d"
  refine rd_repS (by omega) (by omega) (by decide) ?_
  repeat walk_at "d"
  refine ⟨_, _, _, _, rfl, rfl, (by first | rfl | exact get_end _ _ | exact get_mid _ _ _ | exact get_mids _ _ _ | exact get_mids2 _ _ _ _), (by assumption), (by omega), ⟨_, rfl, by simp, by simp⟩, rfl, ?_⟩
  rintro d_b3 b3 ⟨ts, e, hm⟩ hG_b3 hc_b3
  try rw [set_end]
  try rw [set_mid]
  try rw [set_mids]
  try rw [set_mids2]
  cases e
  repeat walk_at "d"
  refine fin_sh rfl (hq _ b3 ?_ hG_b3 (by omega))
  simp only [List.mem_cons, List.not_mem_nil, or_false] at hm
  rcases hm with rfl | rfl | rfl | rfl | rfl | rfl | rfl | rfl | rfl
  all_goals simp [postThing, Pd]
theorem fn_law {f : Addr} {fd : FuncData} (F : Fun K "law" "law" s_law f fd) (B : Bare mg) (D_same : ∀ n : Nat, Df P w K mg base "_law_same" (n + 1) p_same (PureR (sameF n))) (D_box : Df P w K mg base "_law_box" (1) p_box (RBox)) (D_thing : Df P w K mg base "_law_thing" (4) p_thing (BoxE preThing 3 postThing)) (D_made : Df P w K mg base "_law_made" (4) p_made (RMade 0 [a_BadText, a_BadRow, a_Clash, a_NoRule, a_BadStep, a_BadChart, a_Leans, a_NotLetBy, a_NoWorld, a_TooLong, a_Known, a_Unknown, a_TooMany, a_Leant, a_BadDeed])) (D_kinds : Df P w K mg base "_law_kinds" (2) p_kinds (RKinds [a_BadText, a_BadRow, a_Clash, a_NoRule, a_BadStep, a_BadChart, a_Leans, a_NotLetBy, a_NoWorld, a_TooLong, a_Known, a_Unknown, a_TooMany, a_Leant, a_BadDeed])) (EK : ErrK K [a_BadText, a_BadRow, a_Clash, a_NoRule, a_BadStep, a_BadChart, a_Leans, a_NotLetBy, a_NoWorld, a_TooLong, a_Known, a_Unknown, a_TooMany, a_Leant, a_BadDeed] a_RingError) (I_SIZE : ∃ t, mg "SIZE" = some (.int 3 t)) (I_SHELF : ∃ t, mg "SHELF" = some (.int 8 t)) (MG_RingError : mg "RingError" = some (.ref a_RingError)) (FR_ValueError : mg "ValueError" = none) (FR_KeyError : mg "KeyError" = none) (FR_TypeError : mg "TypeError" = none) (FR_IndexError : mg "IndexError" = none) : FnG P w K mg base CX0 (40) f fd p_law (spD K p_law.length (PureR lawF)) := by
  refine fn_okM F sc_law nm_law ns_law gn_law (fun X g hnx hnr tpx nm ns gn xs om Qd hl hR => ?_)
  have hr := g.room
  obtain ⟨_, _, _, _, _, _, _, _, _, _, _⟩ := nm
  obtain ⟨n_script, n_k, n_box_here, n_way, n_own, n_other, n_made_here, n_beside, n_one, n_due, _⟩ := ns
  obtain ⟨g_same, g_SIZE, g_SHELF, g_range, g_max, g_min, g_len, g_box, g_thing, g_made, g_kinds, g_isinstance, g_RingError, g_ValueError, g_KeyError, g_TypeError, g_IndexError, _⟩ := gn
  have b_max := g.bi g_max B.max PyProof.Rows.boot_max
  have b_min := g.bi g_min B.min PyProof.Rows.boot_min
  have b_len := g.bi g_len B.len PySem.boot_len
  have c_box := g.cf g_box D_box
  have c_thing := g.cf g_thing D_thing
  have c_made := g.cf g_made D_made
  have c_kinds := g.cf g_kinds D_kinds
  have b_isinstance := g.bi g_isinstance B.isi PyProof.Rows.boot_isinstance
  obtain ⟨ds, r, rfl, rfl, ⟨ns, rfl, rfl⟩, hq⟩ := hR
  have hf := room_fit hr
  obtain ⟨tI, v_SIZE⟩ : ∃ t, X.mg "SIZE" = some (.int 3 t) := by rw [g.mg]; exact I_SIZE
  obtain ⟨tJ, v_SHELF⟩ : ∃ t, X.mg "SHELF" = some (.int 8 t) := by rw [g.mg]; exact I_SHELF
  have kc_R : ClsN X "RingError" (.ref a_RingError) (.ref a_RingError) := .own g_RingError (by rw [g.mg]; exact MG_RingError)
  have kc_V : ClsN X "ValueError" (.ty "ValueError") (.type "ValueError") := .ty g_ValueError (by rw [g.mg]; exact FR_ValueError) PyProof.Rows.Boot.«ValueError»
  have kc_1 : ClsN X "KeyError" (.ty "KeyError") (.type "KeyError") := .ty g_KeyError (by rw [g.mg]; exact FR_KeyError) PyProof.Rows.Boot.«KeyError»
  have kc_2 : ClsN X "TypeError" (.ty "TypeError") (.type "TypeError") := .ty g_TypeError (by rw [g.mg]; exact FR_TypeError) PyProof.Rows.Boot.«TypeError»
  have kc_3 : ClsN X "IndexError" (.ty "IndexError") (.type "IndexError") := .ty g_IndexError (by rw [g.mg]; exact FR_IndexError) PyProof.Rows.Boot.«IndexError»
  have c_same := g.cf g_same (D_same 5)
  show WS _ _ ⟨[.sh (.list (ns.map .int)), .no, .no, .no, .no, .no, .no, .no, .no, .no, .no], []⟩ _
  repeat walk_at "d"
  refine ⟨_, _, rfl, ⟨.list [.int 3, .int 8], rfl, by simp [Pd], rfl⟩, rfl, ?_⟩
  repeat walk_at "d"
  refine w1_for (g := gName 1) (vs := [1]) (pgN n_k) ?_ g.calm g.po
  refine wi_rng1 g_range.g (by rw [g.mg]; exact B.range) ?_
  repeat walk_at "d"
  have hcl : (ns.map PyData.int).length = ns.length := List.length_map _
  refine ⟨by split <;> (split <;> omega), by split <;> (split <;> omega), fun i z => ∃ (x_k x_box_here x_way x_own x_other x_made_here x_beside x_one x_due x_at : Sl) (om : List OO), z = ⟨[.sh (.list (ns.map .int)), x_k, x_box_here, x_way, x_own, x_other, x_made_here, x_beside, x_one, x_due, x_at], om⟩, ?_, ?_, ?_, ?_⟩
  · exact ⟨.no, .no, .no, .no, .no, .no, .no, .no, .no, .no, [], rfl⟩
  · exact fun _ _ _ _ => trivial
  · rintro i y z hy ⟨x_k, x_box_here, x_way, x_own, x_other, x_made_here, x_beside, x_one, x_due, x_at, om, rfl⟩
    obtain ⟨hi, rfl⟩ := rngL_get hy
    refine gd_name (by simp) ?_
    refine ws_cons ?_
    walk_at "w1"
    refine we_cG c_box hr (by omega) ?_ rfl rfl
    repeat walk_at "d"
    refine ⟨_, fun y om' => ∃ b : Bx, b.G ∧ b.c + 1000000000 ≤ 1099511627776 ∧ y = .ob 0 ∧ om' = [b.o], rfl, ⟨ns, _, rfl, rfl, by omega, by omega, fun b h1 h2 => ⟨b, h1, h2, rfl, rfl⟩⟩, rfl, ?_⟩
    rintro y om' ⟨b1, hG_b1, hc_b1, rfl, rfl⟩
    show Seq X _ _ (.nx ⟨[.sh (.list (ns.map .int)), .sh (.int (0 + (i : Int))), .ob om.length, x_way, x_own, x_other, x_made_here, x_beside, x_one, x_due, x_at], om ++ [b1.o]⟩)
    refine seq_nx ?_
    repeat walk_at "d"
    refine w1_for (g := gName 3) (vs := [3]) (pgN n_way) ?_ g.calm g.po
    refine wi_rng1 g_range.g (by rw [g.mg]; exact B.range) ?_
    repeat walk_at "d"
    refine ⟨by omega, by omega, fun j z => ∃ (x_way x_own x_other x_made_here x_beside x_one x_due x_at : Sl) (b2 : Bx) (om2 : List OO), z = ⟨[.sh (.list (ns.map .int)), .sh (.int (0 + (i : Int))), .ob om.length, x_way, x_own, x_other, x_made_here, x_beside, x_one, x_due, x_at], (om ++ [b2.o]) ++ om2⟩ ∧ b2.G ∧ b2.c ≤ b1.c + 8 * (j : Int), ?_, ?_, ?_, ?_⟩
    · refine ⟨?_, ?_, ?_, ?_, ?_, ?_, ?_, ?_, b1, [], ?eq0, hG_b1, by omega⟩
      case eq0 => rw [List.append_nil]
    · exact fun _ _ _ _ => trivial
    · rintro j y z hy ⟨x_way, x_own, x_other, x_made_here, x_beside, x_one, x_due, x_at, b2, om2, rfl, hG_b2, hc_b2⟩
      obtain ⟨hj, rfl⟩ := rngL_get hy
      have hj15 : j < 15 := hj
      refine gd_name (by simp) ?_
      refine ws_cons ?_
      refine w1_par (n := 4) (m := 5) g.nd n_own.n n_other.n (by decide) ?_ (swap2 g.knd (g.loc (by decide +kernel)) (g.loc (by decide +kernel)) (by decide)) rfl (g.loc (by decide +kernel)) (g.loc (by decide +kernel)) g.calm
      repeat walk_at "d"
      refine ⟨_, _, _, _, rfl, rfl, (by first | rfl | exact get_end _ _ | exact get_mid _ _ _ | exact get_mids _ _ _ | exact get_mids2 _ _ _ _), (by assumption), (by omega), rfl, rfl, ?_⟩
      rintro d_b3 b3 ho hG_b3 hc_b3
      try rw [set_end]
      try rw [set_mid]
      try rw [set_mids]
      try rw [set_mids2]
      repeat walk_at "d"
      refine ⟨_, _, _, _, rfl, rfl, (by first | rfl | exact get_end _ _ | exact get_mid _ _ _ | exact get_mids _ _ _ | exact get_mids2 _ _ _ _), (by assumption), (by omega), rfl, rfl, ?_⟩
      rintro d_b4 b4 hp hG_b4 hc_b4
      try rw [set_end]
      try rw [set_mid]
      try rw [set_mids]
      try rw [set_mids2]
      have ho : Pd 3 d_b3 := ho
      have hp : Pd 3 d_b4 := hp
      obtain ⟨C, hC⟩ : ∃ C, ([a_BadText, a_BadRow, a_Clash, a_NoRule, a_BadStep, a_BadChart, a_Leans, a_NotLetBy, a_NoWorld, a_TooLong, a_Known, a_Unknown, a_TooMany, a_Leant, a_BadDeed] : List Addr)[j]? = some C := ⟨_, List.getElem?_eq_getElem (by simpa using hj15)⟩
      obtain ⟨st, hst⟩ : ∃ st, st = (om ++ [b4.o]) ++ om2 := ⟨_, rfl⟩
      rw [← hst]
      repeat walk_at "d"
      refine w1_par (n := 6) (m := 7) g.nd n_made_here.n n_beside.n (by decide) ?_ (swap2 g.knd (g.loc (by decide +kernel)) (g.loc (by decide +kernel)) (by decide)) rfl (g.loc (by decide +kernel)) (g.loc (by decide +kernel)) g.calm
      refine we_cF c_made hr (by omega) ?_
      repeat walk_at "d"
      refine ⟨fun y om => y = .ob 0 ∧ om = [.lst [.ex C d_b3, .ex C d_b3]], rfl, ⟨j, d_b3, C, by rw [Int.zero_add], rfl, by omega, hj15, hC, rfl, rfl⟩, rfl, ?_⟩
      rintro y om' ⟨rfl, rfl⟩
      refine we_cF c_made hr (by omega) ?_
      repeat walk_at "d"
      refine ⟨fun y om => y = .ob 0 ∧ om = [.lst [.ex C d_b4, .ex C d_b4]], rfl, ⟨j, d_b4, C, by rw [Int.zero_add], rfl, by omega, hj15, hC, rfl, rfl⟩, rfl, ?_⟩
      rintro y om' ⟨rfl, rfl⟩
      have el : (st ++ [OO.lst [.ex C d_b3, .ex C d_b3]]).length = st.length + 1 := by simp
      show Seq X _ _ (.nx ⟨[.sh (.list (ns.map .int)), .sh (.int (0 + (i : Int))), .ob om.length, .sh (.int (0 + (j : Int))), .sh d_b3, .sh d_b4, .ob st.length, .ob (st ++ [OO.lst [.ex C d_b3, .ex C d_b3]]).length, x_one, x_due, x_at], (st ++ [.lst [.ex C d_b3, .ex C d_b3]]) ++ [.lst [.ex C d_b4, .ex C d_b4]]⟩)
      rw [el]
      refine seq_nx ?_
      refine ws_cons ?_
      refine w1_for (g := gName 8) (vs := [8]) (pgN n_one) ?_ g.calm g.po
      refine wi_list ?_
      repeat walk_at "d"
      refine ⟨_, _, .ob _ _ (get_mid _ _ _), ?_⟩
      refine ⟨fun q z => ∃ (x_one x_due x_at : Sl), z = ⟨[.sh (.list (ns.map .int)), .sh (.int (0 + (i : Int))), .ob om.length, .sh (.int (0 + (j : Int))), .sh d_b3, .sh d_b4, .ob st.length, .ob (st.length + 1), x_one, x_due, x_at], (st ++ [.lst [.ex C d_b3, .ex C d_b3]]) ++ [.lst [.ex C d_b4, .ex C d_b4]]⟩, ?_, ?_, ?_, ?_⟩
      · exact ⟨_, _, _, rfl⟩
      · rintro q z hq1 ⟨x_one, x_due, x_at, rfl⟩
        exact get_mid _ _ _
      · rintro q y z hy ⟨x_one, x_due, x_at, rfl⟩
        obtain ⟨hq2, rfl⟩ : q < 2 ∧ y = .ex C d_b3 := by
          have hmem := List.mem_of_getElem? hy
          refine ⟨(List.getElem?_eq_some_iff.mp hy).1, ?_⟩
          simpa using hmem
        refine gd_name (by simp) ?_
        repeat walk_at "d"
        with_reducible refine w1_setLcF (own := [("_law_at", 10)]) (g := gName 10) g.nd n_due.n ?lc1 ?lc2 ?_ ?lc5 ?lc6 g.calm ?lc4
        case lc4 => exact fun _ => rfl
        case lc5 => exact sw_lc g.sc (by decide +kernel)
        case lc6 => rw [g.sc]; decide +kernel
        case lc1 => exact g.blk (by decide +kernel)
        case lc2 => exact fun s H C cl fp => g.bpg (by decide +kernel)
        refine wi_rng1 g_range.g (by rw [g.mg]; exact B.range) ?_
        repeat walk_at "d"
        refine ⟨by omega, by omega, ?_⟩
        refine lcd_map (kindsL j) (by rw [rngL_len]; unfold kindsL; simp) (by rw [rngL_len]; decide) trivial (fun q2 y v hy2 hv => ?_) ?_
        · obtain ⟨hq3, rfl⟩ := rngL_get hy2
          have hq4 : q2 < 15 := hq3
          have hv2 : v = .bool (decide (j = q2)) := by
            unfold kindsL at hv
            rw [List.getElem?_map, List.getElem?_range hq4] at hv
            exact (Option.some.inj hv).symm
          subst hv2
          refine gd_name (by simp) ?_
          intro s H C cl fp
          refine g.inB [("_law_at", 10), ("_law_way", 3)] [] (by decide +kernel) (by decide +kernel) fun nb gb => ?_
          obtain ⟨_, _, _⟩ := nb
          show WE _ _ ⟨[_, _, _, _, _, _, _, _, _, _, _], _⟩ _
          repeat walk_at "d"
          refine ⟨?_, rfl⟩
          rw [show decide ((0 : Int) + (q2 : Int) = 0 + (j : Int)) = decide (j = q2) from decide_eq_decide.mpr (by omega)]
        repeat walk_at "d"
        refine we_cF c_kinds hr (by omega) ?_
        repeat walk_at "d"
        refine ⟨fun y om => y = .sh (.list (kindsL j)) ∧ om = [], rfl, ⟨j, C, d_b3, rfl, rfl, hC, rfl, rfl⟩, rfl, ?_⟩
        rintro y om' ⟨rfl, rfl⟩
        rw [List.map_nil, List.append_nil]
        repeat walk_at "d"
        refine rd_neD hf (shaped_kinds j) (shaped_kinds j) ?_
        rw [eqv_kinds]
        have hmC := List.mem_of_getElem? hC
        have xc := EK.xc C hmC
        have kr := EK.kr C hmC
        have kv := EK.kv C hmC
        have k1 := EK.k1 C hmC
        have k2 := EK.k2 C hmC
        have k3 := EK.k3 C hmC
        rw [← g.K] at xc kr kv k1 k2 k3
        repeat walk_at "k"
        refine we_what ?_
        repeat walk_at "d"
        refine ⟨_, _, rfl, xc, ?_⟩
        repeat walk_at "d"
        refine ⟨_, _, rfl, ⟨d_b3, rfl, ho.mono (by decide), rfl⟩, rfl, ?_⟩
        repeat walk_at "d"
        exact loop_nx ⟨_, _, _, rfl⟩
      · rintro z ⟨x_one, x_due, x_at, rfl⟩
        repeat walk_at "d"
        with_reducible refine we_lcF (own := [("_law_one", 8)]) (g := gName 8) g.nd ?lc1 ?lc2 ?_ g.calm ?lc4
        case lc4 => exact fun _ => rfl
        case lc1 => exact g.blk (by decide +kernel)
        case lc2 => exact fun s H C cl fp => g.bpg (by decide +kernel)
        refine wi_list ?_
        repeat walk_at "d"
        refine ⟨_, _, .ob _ _ (get_last2 _ _ _), ?_⟩
        refine lcd_map [d_b4, d_b4] rfl (show 2 ≤ 100000 by decide) (get_last2 _ _ _) (fun q y v hy hv => ?_) ?_
        · obtain rfl : y = .ex C d_b4 := by simpa using List.mem_of_getElem? hy
          obtain rfl : v = d_b4 := by simpa using List.mem_of_getElem? hv
          refine gd_name (by simp) ?_
          have xc := EK.xc C (List.mem_of_getElem? hC)
          rw [← g.K] at xc
          intro s H C cl fp
          refine g.inB [("_law_one", 8)] [] (by decide +kernel) (by decide +kernel) fun nb gb => ?_
          obtain ⟨_, _⟩ := nb
          show WE _ _ ⟨[_, _, _, _, _, _, _, _, _, _, _], _⟩ _
          refine we_what ?_
          repeat walk_at "d"
          refine ⟨_, _, rfl, xc, ?_⟩
          exact ⟨rfl, rfl⟩
        repeat walk_at "d"
        refine ⟨_, _, rfl, ⟨.list [d_b4, d_b4], rfl, ⟨by simp, fun e he => by
          simp only [List.mem_cons, List.not_mem_nil, or_false, or_self] at he
          rw [he]
          exact hp.mono (by decide)⟩, rfl⟩, rfl, ?_⟩
        repeat walk_at "d"
        refine loop_nx ⟨?_, ?_, ?_, ?_, ?_, ?_, ?_, ?_, b4, om2 ++ [.lst [.ex C d_b3, .ex C d_b3]] ++ [.lst [.ex C d_b4, .ex C d_b4]], ?eq1, hG_b4, by omega⟩
        case eq1 =>
          rw [hst]
          simp only [List.append_assoc]
          rfl
    · rintro z ⟨x_way, x_own, x_other, x_made_here, x_beside, x_one, x_due, x_at, b2, om2, rfl, hG_b2, hc_b2⟩
      repeat walk_at "d"
      exact loop_nx ⟨_, _, _, _, _, _, _, _, _, _, _, rfl⟩
  · rintro z ⟨x_k, x_box_here, x_way, x_own, x_other, x_made_here, x_beside, x_one, x_due, x_at, om, rfl⟩
    repeat walk_at "d"
    exact fin_sh rfl hq
end

/-! ### the head: facts by names, the run -/
section
variable {K : PySem.W.Frag} {h : Heap} {mg : Str → Option Value} {w : World}
theorem bare_of (X : K.In h) (G : h.Ns mainGlobals mg) (c : He.SaysD fa fn K) : Bare mg where
  len := He.free_ok X G (c.fact 9 (f := .free "len") rfl)
  abs := He.free_ok X G (c.fact 10 (f := .free "abs") rfl)
  int := He.free_ok X G (c.fact 11 (f := .free "int") rfl)
  isi := He.free_ok X G (c.fact 12 (f := .free "isinstance") rfl)
  list := He.free_ok X G (c.fact 13 (f := .free "list") rfl)
  tup := He.free_ok X G (c.fact 14 (f := .free "tuple") rfl)
  str := He.free_ok X G (c.fact 15 (f := .free "str") rfl)
  bool := He.free_ok X G (c.fact 16 (f := .free "bool") rfl)
  all := He.free_ok X G (c.fact 17 (f := .free "all") rfl)
  any := He.free_ok X G (c.fact 18 (f := .free "any") rfl)
  zip := He.free_ok X G (c.fact 19 (f := .free "zip") rfl)
  range := He.free_ok X G (c.fact 20 (f := .free "range") rfl)
  min := He.free_ok X G (c.fact 21 (f := .free "min") rfl)
  max := He.free_ok X G (c.fact 22 (f := .free "max") rfl)
  sorted := He.free_ok X G (c.fact 23 (f := .free "sorted") rfl)
  set := He.free_ok X G (c.fact 24 (f := .free "set") rfl)
  dict := He.free_ok X G (c.fact 25 (f := .free "dict") rfl)
  repr := He.free_ok X G (c.fact 26 (f := .free "repr") rfl)
  enum := He.free_ok X G (c.fact 27 (f := .free "enumerate") rfl)
  sum := He.free_ok X G (c.fact 28 (f := .free "sum") rfl)
  rev := He.free_ok X G (c.fact 29 (f := .free "reversed") rfl)
  type := He.free_ok X G (c.fact 30 (f := .free "type") rfl)
  ord := He.free_ok X G (c.fact 31 (f := .free "ord") rfl)
  chr := He.free_ok X G (c.fact 32 (f := .free "chr") rfl)
theorem glo_box (X : K.In h) (G : h.Ns mainGlobals mg) (c : He.SaysD fa fn K) : mg "_law_box" = some (.ref (He.ga K "_law_box")) := He.glo_ok X G (c.fact 0 (f := .glo "_law_box") rfl)
theorem fun_box (c : He.SaysD fa fn K) : ∃ fd, Fun (thin K) "_law_box" "_law_box" s_box (He.ga K "_law_box") fd ∧ Binds (thin K) fd p_box [] := by
  obtain ⟨fd, F⟩ := c.def_ 0 (d := d_box) rfl
  have F2 := thin_fun (st := s_box) F
  exact ⟨fd, F2, F2.binds fun _ _ _ _ _ _ us hl => match us, hl with | [_, _], _ => rfl⟩
theorem glo_take (X : K.In h) (G : h.Ns mainGlobals mg) (c : He.SaysD fa fn K) : mg "_law_take" = some (.ref (He.ga K "_law_take")) := He.glo_ok X G (c.fact 1 (f := .glo "_law_take") rfl)
theorem fun_take (c : He.SaysD fa fn K) : ∃ fd, Fun (thin K) "_law_take" "_law_take" s_take (He.ga K "_law_take") fd ∧ Binds (thin K) fd p_take [] := by
  obtain ⟨fd, F⟩ := c.def_ 1 (d := d_take) rfl
  have F2 := thin_fun (st := s_take) F
  exact ⟨fd, F2, F2.binds fun _ _ _ _ _ _ us hl => match us, hl with | [_, _], _ => rfl⟩
theorem glo_pick (X : K.In h) (G : h.Ns mainGlobals mg) (c : He.SaysD fa fn K) : mg "_law_pick" = some (.ref (He.ga K "_law_pick")) := He.glo_ok X G (c.fact 2 (f := .glo "_law_pick") rfl)
theorem fun_pick (c : He.SaysD fa fn K) : ∃ fd, Fun (thin K) "_law_pick" "_law_pick" s_pick (He.ga K "_law_pick") fd ∧ Binds (thin K) fd p_pick [] := by
  obtain ⟨fd, F⟩ := c.def_ 2 (d := d_pick) rfl
  have F2 := thin_fun (st := s_pick) F
  exact ⟨fd, F2, F2.binds fun _ _ _ _ _ _ us hl => match us, hl with | [_, _], _ => rfl⟩
theorem glo_same (X : K.In h) (G : h.Ns mainGlobals mg) (c : He.SaysD fa fn K) : mg "_law_same" = some (.ref (He.ga K "_law_same")) := He.glo_ok X G (c.fact 3 (f := .glo "_law_same") rfl)
theorem fun_same (c : He.SaysD fa fn K) : ∃ fd, Fun (thin K) "_law_same" "_law_same" s_same (He.ga K "_law_same") fd ∧ Binds (thin K) fd p_same [] := by
  obtain ⟨fd, F⟩ := c.def_ 3 (d := d_same) rfl
  have F2 := thin_fun (st := s_same) F
  exact ⟨fd, F2, F2.binds fun _ _ _ _ _ _ us hl => match us, hl with | [_, _], _ => rfl⟩
theorem glo_made (X : K.In h) (G : h.Ns mainGlobals mg) (c : He.SaysD fa fn K) : mg "_law_made" = some (.ref (He.ga K "_law_made")) := He.glo_ok X G (c.fact 4 (f := .glo "_law_made") rfl)
theorem fun_made (c : He.SaysD fa fn K) : ∃ fd, Fun (thin K) "_law_made" "_law_made" s_made (He.ga K "_law_made") fd ∧ Binds (thin K) fd p_made [] := by
  obtain ⟨fd, F⟩ := c.def_ 4 (d := d_made) rfl
  have F2 := thin_fun (st := s_made) F
  exact ⟨fd, F2, F2.binds fun _ _ _ _ _ _ us hl => match us, hl with | [_, _], _ => rfl⟩
theorem glo_made_more (X : K.In h) (G : h.Ns mainGlobals mg) (c : He.SaysD fa fn K) : mg "_law_made_more" = some (.ref (He.ga K "_law_made_more")) := He.glo_ok X G (c.fact 5 (f := .glo "_law_made_more") rfl)
theorem fun_made_more (c : He.SaysD fa fn K) : ∃ fd, Fun (thin K) "_law_made_more" "_law_made_more" s_made_more (He.ga K "_law_made_more") fd ∧ Binds (thin K) fd p_made_more [] := by
  obtain ⟨fd, F⟩ := c.def_ 5 (d := d_made_more) rfl
  have F2 := thin_fun (st := s_made_more) F
  exact ⟨fd, F2, F2.binds fun _ _ _ _ _ _ us hl => match us, hl with | [_, _], _ => rfl⟩
theorem glo_kinds (X : K.In h) (G : h.Ns mainGlobals mg) (c : He.SaysD fa fn K) : mg "_law_kinds" = some (.ref (He.ga K "_law_kinds")) := He.glo_ok X G (c.fact 6 (f := .glo "_law_kinds") rfl)
theorem fun_kinds (c : He.SaysD fa fn K) : ∃ fd, Fun (thin K) "_law_kinds" "_law_kinds" s_kinds (He.ga K "_law_kinds") fd ∧ Binds (thin K) fd p_kinds [] := by
  obtain ⟨fd, F⟩ := c.def_ 6 (d := d_kinds) rfl
  have F2 := thin_fun (st := s_kinds) F
  exact ⟨fd, F2, F2.binds fun _ _ _ _ _ _ us hl => match us, hl with | [_], _ => rfl⟩
theorem glo_thing (X : K.In h) (G : h.Ns mainGlobals mg) (c : He.SaysD fa fn K) : mg "_law_thing" = some (.ref (He.ga K "_law_thing")) := He.glo_ok X G (c.fact 7 (f := .glo "_law_thing") rfl)
theorem fun_thing (c : He.SaysD fa fn K) : ∃ fd, Fun (thin K) "_law_thing" "_law_thing" s_thing (He.ga K "_law_thing") fd ∧ Binds (thin K) fd p_thing [] := by
  obtain ⟨fd, F⟩ := c.def_ 7 (d := d_thing) rfl
  have F2 := thin_fun (st := s_thing) F
  exact ⟨fd, F2, F2.binds fun _ _ _ _ _ _ us hl => match us, hl with | [_], _ => rfl⟩
theorem glo_law (X : K.In h) (G : h.Ns mainGlobals mg) (c : He.SaysD fa fn K) : mg "law" = some (.ref (He.ga K "law")) := He.glo_ok X G (c.fact 8 (f := .glo "law") rfl)
theorem fun_law (c : He.SaysD fa fn K) : ∃ fd, Fun (thin K) "law" "law" s_law (He.ga K "law") fd ∧ Binds (thin K) fd p_law [] := by
  obtain ⟨fd, F⟩ := c.def_ 8 (d := d_law) rfl
  have F2 := thin_fun (st := s_law) F
  exact ⟨fd, F2, F2.binds fun _ _ _ _ _ _ us hl => match us, hl with | [_], _ => rfl⟩
theorem int_SIZE (X : K.In h) (G : h.Ns mainGlobals mg) (c : He.SaysD fa fn K) : ∃ t, mg "SIZE" = some (.int 3 t) := He.int_ok X G (c.fact 33 (f := .int "SIZE" 3) rfl)
theorem int_SHELF (X : K.In h) (G : h.Ns mainGlobals mg) (c : He.SaysD fa fn K) : ∃ t, mg "SHELF" = some (.int 8 t) := He.int_ok X G (c.fact 34 (f := .int "SHELF" 8) rfl)
theorem cg_RingError (X : K.In h) (G : h.Ns mainGlobals mg) (c : He.SaysD fa fn K) : mg "RingError" = some (.ref (He.ga K "RingError")) := He.glo_ok X G (c.fact 35 (f := .glo "RingError") rfl)
theorem cg_BadText (X : K.In h) (G : h.Ns mainGlobals mg) (c : He.SaysD fa fn K) : mg "BadText" = some (.ref (He.ga K "BadText")) := He.glo_ok X G (c.fact 36 (f := .glo "BadText") rfl)
theorem cg_BadRow (X : K.In h) (G : h.Ns mainGlobals mg) (c : He.SaysD fa fn K) : mg "BadRow" = some (.ref (He.ga K "BadRow")) := He.glo_ok X G (c.fact 37 (f := .glo "BadRow") rfl)
theorem cg_Clash (X : K.In h) (G : h.Ns mainGlobals mg) (c : He.SaysD fa fn K) : mg "Clash" = some (.ref (He.ga K "Clash")) := He.glo_ok X G (c.fact 38 (f := .glo "Clash") rfl)
theorem cg_NoRule (X : K.In h) (G : h.Ns mainGlobals mg) (c : He.SaysD fa fn K) : mg "NoRule" = some (.ref (He.ga K "NoRule")) := He.glo_ok X G (c.fact 39 (f := .glo "NoRule") rfl)
theorem cg_BadStep (X : K.In h) (G : h.Ns mainGlobals mg) (c : He.SaysD fa fn K) : mg "BadStep" = some (.ref (He.ga K "BadStep")) := He.glo_ok X G (c.fact 40 (f := .glo "BadStep") rfl)
theorem cg_BadChart (X : K.In h) (G : h.Ns mainGlobals mg) (c : He.SaysD fa fn K) : mg "BadChart" = some (.ref (He.ga K "BadChart")) := He.glo_ok X G (c.fact 41 (f := .glo "BadChart") rfl)
theorem cg_Leans (X : K.In h) (G : h.Ns mainGlobals mg) (c : He.SaysD fa fn K) : mg "Leans" = some (.ref (He.ga K "Leans")) := He.glo_ok X G (c.fact 42 (f := .glo "Leans") rfl)
theorem cg_NotLetBy (X : K.In h) (G : h.Ns mainGlobals mg) (c : He.SaysD fa fn K) : mg "NotLetBy" = some (.ref (He.ga K "NotLetBy")) := He.glo_ok X G (c.fact 43 (f := .glo "NotLetBy") rfl)
theorem cg_NoWorld (X : K.In h) (G : h.Ns mainGlobals mg) (c : He.SaysD fa fn K) : mg "NoWorld" = some (.ref (He.ga K "NoWorld")) := He.glo_ok X G (c.fact 44 (f := .glo "NoWorld") rfl)
theorem cg_TooLong (X : K.In h) (G : h.Ns mainGlobals mg) (c : He.SaysD fa fn K) : mg "TooLong" = some (.ref (He.ga K "TooLong")) := He.glo_ok X G (c.fact 45 (f := .glo "TooLong") rfl)
theorem cg_Known (X : K.In h) (G : h.Ns mainGlobals mg) (c : He.SaysD fa fn K) : mg "Known" = some (.ref (He.ga K "Known")) := He.glo_ok X G (c.fact 46 (f := .glo "Known") rfl)
theorem cg_Unknown (X : K.In h) (G : h.Ns mainGlobals mg) (c : He.SaysD fa fn K) : mg "Unknown" = some (.ref (He.ga K "Unknown")) := He.glo_ok X G (c.fact 47 (f := .glo "Unknown") rfl)
theorem cg_TooMany (X : K.In h) (G : h.Ns mainGlobals mg) (c : He.SaysD fa fn K) : mg "TooMany" = some (.ref (He.ga K "TooMany")) := He.glo_ok X G (c.fact 48 (f := .glo "TooMany") rfl)
theorem cg_Leant (X : K.In h) (G : h.Ns mainGlobals mg) (c : He.SaysD fa fn K) : mg "Leant" = some (.ref (He.ga K "Leant")) := He.glo_ok X G (c.fact 49 (f := .glo "Leant") rfl)
theorem cg_BadDeed (X : K.In h) (G : h.Ns mainGlobals mg) (c : He.SaysD fa fn K) : mg "BadDeed" = some (.ref (He.ga K "BadDeed")) := He.glo_ok X G (c.fact 50 (f := .glo "BadDeed") rfl)
theorem fr_IndexError (X : K.In h) (G : h.Ns mainGlobals mg) (c : He.SaysD fa fn K) : mg "IndexError" = none := He.free_ok X G (c.fact 51 (f := .free "IndexError") rfl)
theorem fr_KeyError (X : K.In h) (G : h.Ns mainGlobals mg) (c : He.SaysD fa fn K) : mg "KeyError" = none := He.free_ok X G (c.fact 52 (f := .free "KeyError") rfl)
theorem fr_TypeError (X : K.In h) (G : h.Ns mainGlobals mg) (c : He.SaysD fa fn K) : mg "TypeError" = none := He.free_ok X G (c.fact 53 (f := .free "TypeError") rfl)
theorem fr_ValueError (X : K.In h) (G : h.Ns mainGlobals mg) (c : He.SaysD fa fn K) : mg "ValueError" = none := He.free_ok X G (c.fact 54 (f := .free "ValueError") rfl)
theorem fun_RI (c : He.SaysD fa fn K) : ∃ fd, Fun (thin K) "__init__" "RingError.__init__" s_RingError_init (fR K) fd ∧ Binds (thin K) fd ["self", "what"] [] ∧ ∀ (s : Shared) (a u : Value), BindsTo s fd ⟨[a], [("what", u)]⟩ [("self", a), ("what", u)] := by
  obtain ⟨fd, F⟩ := c.def_ 9 (d := d_RI) rfl
  have F2 := thin_fun (st := s_RingError_init) F
  refine ⟨fd, F2, F2.binds fun _ _ _ _ _ _ us hl => match us, hl with | [_, _], _ => rfl, ?_⟩
  obtain ⟨oc, od, kV, doc, pm, an, cdv, ct, osl, rfl, lk, hcd⟩ := F2.ex
  exact fun s a u => .of_eq rfl
theorem exf_ok (c : He.SaysX fa fn ts [] ex w h K) : Exf (thin K) (aR K) (fR K) (clX K) := exfB_ok c.more
end
abbrev most : Nat := 63
abbrev depth : Nat := 40
theorem facts {P : Program} {w : World} {K : PySem.W.Frag} {h : Heap} {mg : Str → Option Value} {f : Addr} (X : K.In h) (G : h.Ns mainGlobals mg) (hfa : mg ("law" : Str) = some (.ref f)) (c : He.SaysX fa fn ts [] ex w h K) :
    ∃ fd : FuncData, (∀ (s : Shared) (v : Value), BindsTo s fd ⟨[v], []⟩ [("_law_script", v)]) ∧ (∀ (H : Hp) (a : Addr) (ns : List Int), ns.length ≤ most → SqL (thin K) H a (ns.map V.int) → spD (thin K) 1 (PureR lawF) [.ref a] H (fun v _ => v = .bl true) fun _ _ _ => False) ∧
      ∀ base : Heap, (thin K).In base → base.Ns mainGlobals mg → FnG P w (thin K) mg base CX0 depth f fd ["_law_script"] (spD (thin K) 1 (PureR lawF)) := by
  have cd := c.t.d
  have e := hfa.symm.trans (glo_law X G cd)
  cases e
  obtain ⟨fd, F⟩ := cd.def_ 8 (d := d_law) rfl
  have bA := FunD.bindsA (ps := ["_law_script"]) F fun _ _ _ _ _ _ us hl => match us, hl with | [_], _ => rfl
  refine ⟨fd, fun s v => bA s [v] rfl, fun H a ns _ hS => sp_script hS ⟨ns, rfl, rfl⟩, fun base _ _ => ?_⟩
  have FL := thin_fun (st := s_law) F
  have B := bare_of X G cd
  obtain ⟨_, F_box, B_box⟩ := fun_box cd
  obtain ⟨_, F_take, B_take⟩ := fun_take cd
  obtain ⟨_, F_pick, B_pick⟩ := fun_pick cd
  obtain ⟨_, F_same, B_same⟩ := fun_same cd
  obtain ⟨_, F_made, B_made⟩ := fun_made cd
  obtain ⟨_, F_made_more, B_made_more⟩ := fun_made_more cd
  obtain ⟨_, F_kinds, B_kinds⟩ := fun_kinds cd
  obtain ⟨_, F_thing, B_thing⟩ := fun_thing cd
  have I_SIZE := int_SIZE X G cd
  have I_SHELF := int_SHELF X G cd
  have exf := exf_ok c
  have FR_IndexError := fr_IndexError X G cd
  have FR_KeyError := fr_KeyError X G cd
  have FR_TypeError := fr_TypeError X G cd
  have FR_ValueError := fr_ValueError X G cd
  obtain ⟨_, F_RI, B_RI, W_RI⟩ := fun_RI cd
  have I_RI := fn_ringInit (P := P) (w := w) (base := base) F_RI FR_ValueError (vV_ok _)
  have MG_RingError := cg_RingError X G cd
  have MG_BadText := cg_BadText X G cd
  have MG_BadRow := cg_BadRow X G cd
  have MG_Clash := cg_Clash X G cd
  have MG_NoRule := cg_NoRule X G cd
  have MG_BadStep := cg_BadStep X G cd
  have MG_BadChart := cg_BadChart X G cd
  have MG_Leans := cg_Leans X G cd
  have MG_NotLetBy := cg_NotLetBy X G cd
  have MG_NoWorld := cg_NoWorld X G cd
  have MG_TooLong := cg_TooLong X G cd
  have MG_Known := cg_Known X G cd
  have MG_Unknown := cg_Unknown X G cd
  have MG_TooMany := cg_TooMany X G cd
  have MG_Leant := cg_Leant X G cd
  have MG_BadDeed := cg_BadDeed X G cd
  have KX_BadText := exf.kx (C := He.ga K "BadText") (by simp) MG_BadText I_RI B_RI W_RI
  have KX_BadRow := exf.kx (C := He.ga K "BadRow") (by simp) MG_BadRow I_RI B_RI W_RI
  have KX_Clash := exf.kx (C := He.ga K "Clash") (by simp) MG_Clash I_RI B_RI W_RI
  have KX_NoRule := exf.kx (C := He.ga K "NoRule") (by simp) MG_NoRule I_RI B_RI W_RI
  have KX_BadStep := exf.kx (C := He.ga K "BadStep") (by simp) MG_BadStep I_RI B_RI W_RI
  have KX_BadChart := exf.kx (C := He.ga K "BadChart") (by simp) MG_BadChart I_RI B_RI W_RI
  have KX_Leans := exf.kx (C := He.ga K "Leans") (by simp) MG_Leans I_RI B_RI W_RI
  have KX_NotLetBy := exf.kx (C := He.ga K "NotLetBy") (by simp) MG_NotLetBy I_RI B_RI W_RI
  have KX_NoWorld := exf.kx (C := He.ga K "NoWorld") (by simp) MG_NoWorld I_RI B_RI W_RI
  have KX_TooLong := exf.kx (C := He.ga K "TooLong") (by simp) MG_TooLong I_RI B_RI W_RI
  have KX_Known := exf.kx (C := He.ga K "Known") (by simp) MG_Known I_RI B_RI W_RI
  have KX_Unknown := exf.kx (C := He.ga K "Unknown") (by simp) MG_Unknown I_RI B_RI W_RI
  have KX_TooMany := exf.kx (C := He.ga K "TooMany") (by simp) MG_TooMany I_RI B_RI W_RI
  have KX_Leant := exf.kx (C := He.ga K "Leant") (by simp) MG_Leant I_RI B_RI W_RI
  have KX_BadDeed := exf.kx (C := He.ga K "BadDeed") (by simp) MG_BadDeed I_RI B_RI W_RI
  have D_take : Df P w (thin K) mg base "_law_take" (1) p_take (BoxE preTake 1 postTake) := ⟨_, _, fn_take F_take B , glo_take X G cd, F_take.kp, B_take⟩
  have D_box : Df P w (thin K) mg base "_law_box" (1) p_box (RBox) := ⟨_, _, fn_box F_box B , glo_box X G cd, F_box.kp, B_box⟩
  have D_pick : Df P w (thin K) mg base "_law_pick" (2) p_pick (BoxE prePick 1 postPick) := ⟨_, _, fn_pick F_pick B D_take, glo_pick X G cd, F_pick.kp, B_pick⟩
  have D_same := fn_same (P := P) (w := w) (base := base) F_same (glo_same X G cd) B_same B 
  have D_made_more : Df P w (thin K) mg base "_law_made_more" (3) p_made_more (RMade 8 [(He.ga K "BadText"), (He.ga K "BadRow"), (He.ga K "Clash"), (He.ga K "NoRule"), (He.ga K "BadStep"), (He.ga K "BadChart"), (He.ga K "Leans"), (He.ga K "NotLetBy"), (He.ga K "NoWorld"), (He.ga K "TooLong"), (He.ga K "Known"), (He.ga K "Unknown"), (He.ga K "TooMany"), (He.ga K "Leant"), (He.ga K "BadDeed")]) := ⟨_, _, fn_made_more F_made_more B KX_NoWorld KX_TooLong KX_Known KX_Unknown KX_TooMany KX_Leant KX_BadDeed, glo_made_more X G cd, F_made_more.kp, B_made_more⟩
  have D_made : Df P w (thin K) mg base "_law_made" (4) p_made (RMade 0 [(He.ga K "BadText"), (He.ga K "BadRow"), (He.ga K "Clash"), (He.ga K "NoRule"), (He.ga K "BadStep"), (He.ga K "BadChart"), (He.ga K "Leans"), (He.ga K "NotLetBy"), (He.ga K "NoWorld"), (He.ga K "TooLong"), (He.ga K "Known"), (He.ga K "Unknown"), (He.ga K "TooMany"), (He.ga K "Leant"), (He.ga K "BadDeed")]) := ⟨_, _, fn_made F_made B D_made_more KX_BadText KX_BadRow KX_Clash KX_NoRule KX_BadStep KX_BadChart KX_Leans KX_NotLetBy, glo_made X G cd, F_made.kp, B_made⟩
  have EK : ErrK (thin K) [(He.ga K "BadText"), (He.ga K "BadRow"), (He.ga K "Clash"), (He.ga K "NoRule"), (He.ga K "BadStep"), (He.ga K "BadChart"), (He.ga K "Leans"), (He.ga K "NotLetBy"), (He.ga K "NoWorld"), (He.ga K "TooLong"), (He.ga K "Known"), (He.ga K "Unknown"), (He.ga K "TooMany"), (He.ga K "Leant"), (He.ga K "BadDeed")] (He.ga K "RingError") := ⟨fun C hC => (exf.one C hC).xc, exf.kk, fun C hC => exf.kr hC, fun C hC => (exf.one C hC).kitT (T := "ValueError") rfl, fun C hC => (exf.one C hC).kitT (T := "KeyError") rfl, fun C hC => (exf.one C hC).kitT (T := "TypeError") rfl, fun C hC => (exf.one C hC).kitT (T := "IndexError") rfl⟩
  have D_kinds : Df P w (thin K) mg base "_law_kinds" (2) p_kinds (RKinds [(He.ga K "BadText"), (He.ga K "BadRow"), (He.ga K "Clash"), (He.ga K "NoRule"), (He.ga K "BadStep"), (He.ga K "BadChart"), (He.ga K "Leans"), (He.ga K "NotLetBy"), (He.ga K "NoWorld"), (He.ga K "TooLong"), (He.ga K "Known"), (He.ga K "Unknown"), (He.ga K "TooMany"), (He.ga K "Leant"), (He.ga K "BadDeed")]) := ⟨_, _, fn_kinds F_kinds B EK MG_BadText MG_BadRow MG_Clash MG_NoRule MG_BadStep MG_BadChart MG_Leans MG_NotLetBy MG_NoWorld MG_TooLong MG_Known MG_Unknown MG_TooMany MG_Leant MG_BadDeed, glo_kinds X G cd, F_kinds.kp, B_kinds⟩
  have D_thing : Df P w (thin K) mg base "_law_thing" (4) p_thing (BoxE preThing 3 postThing) := ⟨_, _, fn_thing F_thing B D_pick D_take, glo_thing X G cd, F_thing.kp, B_thing⟩
  exact fn_law FL B D_same D_box D_thing D_made D_kinds EK I_SIZE I_SHELF MG_RingError FR_ValueError FR_KeyError FR_TypeError FR_IndexError

end K01
open PySem PySem.W PySem.Calls PyProof.Rows
set_option maxHeartbeats 0 in
theorem PySem.Challenge.cw_ringproofs_k01_words_and_refusals_holds : PySem.Challenge.rw_ringproofs_k01_words_and_refusals.Holds := by
  w_on; o_law
  refine HandSHeadRun.head_any (r := OpenLaw.row PySem.Challenge.rw_ringproofs_k01_words_and_refusals) (q := view (OpenLaw.row PySem.Challenge.rw_ringproofs_k01_words_and_refusals).prog [28]) (H := K01.hk) (ob := K01.ob) (M := 4000) (loose := (("RingError" :: "BadText" :: "BadRow" :: "Clash" :: "NoRule" :: "BadStep" :: "BadChart" :: "Leans" :: "NotLetBy" :: "NoWorld" :: "TooLong" :: "Known" :: "Unknown" :: "TooMany" :: "Leant" :: "BadDeed" :: "SIZE" :: "SHELF" :: "_law_box" :: "_law_take" :: "_law_pick" :: "_law_same" :: "_law_made" :: "_law_made_more" :: "_law_kinds" :: "_law_thing" :: [] : List PySem.Str))) (d := HandSHeadRun.topDef (OpenLaw.row PySem.Challenge.rw_ringproofs_k01_words_and_refusals).prog 28) (kwd := []) K01.ob_eq
    (by kernel_rfl) (fun s => by kernel_rfl) K01.run (by kernel_rfl) (by kernel_rfl) (by kernel_rfl) (by rfl) (by first | assumption | decide +kernel) (by decide +kernel) ⟨rfl, rfl, rfl, rfl, rfl, by decide +kernel⟩ ?hw ?hc
  case hw => w_witness2
  case hc =>
    refine Dl.walk_ofG (l := PySem.Challenge.rw_ringproofs_k01_words_and_refusals) (n := K01.most) (k := K01.depth) (x := "_law_script") rfl (by decide) (by kernel_rfl) ⟨⟨rfl, by decide, by decide⟩, rfl⟩ ?F
    intro w mg fa h Y G hmg0
    obtain ⟨K, KX, c⟩ := Y
    have hmg : mg ("law" : PySem.Str) = some (.ref fa) := by
      have e : (HandSHeadRun.topDef (OpenLaw.row PySem.Challenge.rw_ringproofs_k01_words_and_refusals).prog 28).name = ("law" : PySem.Str) := by kernel_rfl
      rw [← e]
      exact hmg0
    obtain ⟨fd, hb, hsp, hF⟩ := K01.facts (P := (PySem.Challenge.rw_ringproofs_k01_words_and_refusals).prog) (w := w) KX G hmg c
    exact ⟨K, fd, _, KX, hb, hsp, hF⟩
