import PyProof.Rows.All
import Wide.All
import OpenK.AllK
import Wide.FinOn
import KE.KExcSuper
import KE.KExcIs
import HandS.ForExc
import HandS.ExcInit
import HandS.ExcField
import HandS.ExcIs
import HandS.IsInst
import HandS.Defaults
import HandS.ExcValue
import HandS.New
import HandS.MakeKw
import HandS.ExcOwn
import KE.GoesMore
import KE.GoesEnum
import HandS.Base
import HandS.Call
import HandS.List
import HandS.Iter
import HandS.Ends
import HandS.More
import HandS.Words
import HandS.WordsExc
import HandS.DeepEq
import HandS.Flow
import HandS.Style
import HandS.Comp
import HandS.Evl
import HandS.TupAny
import HandS.Walk
import HandS.Zip
import PyProof.StrBlock2
import HandS.Lambda
import HandS.Dict
import HandS.Conv
import HandS.Text
import HandS.WordsDict
import HandS.DictComp
import HandS.ClsMeth
import KE.KStateDown
import HandS.Head0
import HandS.Head1
import HandS.Head2
import HandS.HeadEnd
import HandS.HeadHook1
import HandS.HeadHook2
import HandS.HeadNt
import HandS.SetFor
import HandS.OwnEq
import HandS.HeadHook4
import HandS.HeadWalk
import PySem.Challenge.RW_laternets_k10_net_texts
import HandS.HotCalls
import HandS.Deep
import HandS.TryOnly
import PyProof.FString5
import PyProof.DictWalks
import PyProof.MinMaxWalk
import KE.KSortTupG
import KE.KDictWalk
import KE.KDictSum
import HandS.TupLen
import HandS.Sort
import HandS.DictSubView
set_option Elab.async false
set_option linter.all false
set_option maxRecDepth 100000
set_option maxHeartbeats 0
/-! An own exception class over ValueError (some own classes may lie between) whose __init__ says super().__init__(y); self.y = y: made, held as a value, read, asked by isinstance. -/
namespace Sx
open PySem PySem.Spec PySem.W PySem.Calls PyProof.Rows PySem.HandSPX

def iArgs (y : Str) (p1 p2 : Pos) : Arguments := { posonlyargs := [], args := [{ arg := "self", annotation := none, pos := p1 }, { arg := y, annotation := none, pos := p2 }], vararg := none, kwonlyargs := [], kw_defaults := [], kwarg := none, defaults := [] }
def iSup (y : Str) (q1 q2 q3 q4 q5 q6 : Pos) : Stmt := .Expr (.Call (.Attribute (.Call (.Name "super" q1) [] [] q2) "__init__" q3) [.Name y q4] [] q5) q6
def iSet (y : Str) (q7 q8 q9 q10 : Pos) : Stmt := .Assign [.Attribute (.Name "self" q7) y q8] (.Name y q9) q10
def iScope (y : Str) : Scope := { kind := .function, names := [(PySem.Str.ofString "self", .local), (y, .local), (PySem.Str.ofString "__class__", .free), (PySem.Str.ofString "super", .globalImplicit)], isGenerator := false, isCoroutine := false, more := [] }

/-- a field's name: it is no other name that __init__ uses -/
structure YOk (y : Str) : Prop where
  nself : ¬ (y = "self")
  nclass : ¬ (y = "__class__")
  nsuper : ¬ (y = "super")
  ndebug : (y == ("__debug__" : Str)) = false
  bd : ∀ (qual : Str) (p1 p2 : Pos) (body : List Stmt) (doc pm : Value) (an : Option Addr) (cdv ct : Value) (cc : Addr) (a v : Value),
    bindArgs (ksFn "__init__" qual (iArgs y p1 p2) body (iScope y) .none .none doc pm an cdv ct cc) ⟨[a, v], []⟩ = (pure ([("self", a), (y, v)] : List (Str × Value)) : Sem (List (Str × Value)))
  bk : ∀ (qual : Str) (p1 p2 : Pos) (body : List Stmt) (doc pm : Value) (an : Option Addr) (cdv ct : Value) (cc : Addr) (a v : Value),
    bindArgs (ksFn "__init__" qual (iArgs y p1 p2) body (iScope y) .none .none doc pm an cdv ct cc) ⟨[a], [(y, v)]⟩ = (pure ([("self", a), (y, v)] : List (Str × Value)) : Sem (List (Str × Value)))
theorem y_thing : YOk "thing" := ⟨by decide, by decide, by decide, by decide, fun _ _ _ _ _ _ _ _ _ _ _ _ => rfl, fun _ _ _ _ _ _ _ _ _ _ _ _ => rfl⟩
theorem y_name : YOk "name" := ⟨by decide, by decide, by decide, by decide, fun _ _ _ _ _ _ _ _ _ _ _ _ => rfl, fun _ _ _ _ _ _ _ _ _ _ _ _ => rfl⟩
/-- what the written part says of the class at C, whose __init__ stands at fI; y its field -/
structure XTxt (K : Frag) (prog : Program) (y : Str) (C fI : Addr) : Prop where
  cls : ∃ nm q N bs bm sn sub ab col dd k0 k1 k2 k3 k5, K.lookup C = some (excClassObj nm q C N bs bm true sn sub ab col dd k0 k1 k2 k3 k5 "ValueError.__new__") ∧ refsVE bm = true ∧ alongIn K "__init__" bm = some (some (.builtin "ValueError.__init__"))
  sa : findIn K (.ref C) "__setattr__" = some (some (.builtin "object.__setattr__"))
  noY : findIn K (.ref C) y = some none
  iC : findIn K (.ref C) "__init__" = some (some (.ref fI))
  tC : typeIn K (.ref fI) = some (.type "function")
  kC : keepIn K (.ref C) = true
  th : nsIn K cStatics "thirdparty.any" = some none
  su : nsIn K mainGlobals "super" = some none
  yok : YOk y
  top : (prog.main.scope.names.lookup ("super" : Str)).isSome = false
  fn : ∃ (oc : Value) (od : Option Addr) (qual : Str) (doc pm : Value) (an : Option Addr) (cda cc : Addr) (ct : Value) (osl : Array (Option Value)) (p1 p2 q1 q2 q3 q4 q5 q6 q7 q8 q9 q10 : Pos),
    K.lookup fI = some ⟨oc, od, .func (ksFn "__init__" qual (iArgs y p1 p2) [iSup y q1 q2 q3 q4 q5 q6, iSet y q7 q8 q9 q10] (iScope y) .none .none doc pm an (.ref cda) ct cc), osl⟩ ∧ codeIn K (.ref cda) qual = true ∧
    (∃ ccl cdd vs ccs file tf, K.lookup cda = some ⟨ccl, cdd, .fields vs, ccs⟩ ∧ vs[2]? = some (.str file tf) ∧ ((prog.main.file : Str) == file) = true) ∧
    (q3.endLine == q5.line) = true ∧ (∃ cl cld csl, K.lookup cc = some ⟨cl, cld, .cell (some (.ref C)), csl⟩)

/-- a method's call with one plain argument, written on one line -/
theorem ev_meth1 {o e : Expr} {name : Str} {apos pos : Pos} {env : Env} (hp : (apos.endLine == pos.line) = true) (hs : starEach [e] env = [(false, eval e env)]) :
    eval (.Call (.Attribute o name apos) [e] [] pos) env = (do
      let ov ← attributeBase o name env (eval o env)
      standAt apos.atName
      let (f, first) ← holding [ov] (getMethod ov name (do return (← importBound o env).getD true))
      callWith pos f first (backTo pos (starEach [e] env)) []) := by
  show (do
    let ov ← attributeBase o name env (eval o env)
    standAt apos.atName
    methodCall o name apos pos env ov (1 + 0) (backTo pos (starEach [e] env)) (backToKw pos (keywordEach [] env))) = _
  have hb : methodCallForm (1 + 0) (backTo pos (starEach [e] env)) (backToKw pos (keywordEach [] env)) = true := by
    rw [hs]
    rfl
  unfold methodCall
  rw [hb]
  have hpos : methodCallPos true o env apos pos = pure pos := by
    unfold methodCallPos
    rw [hp]
    rfl
  rw [hpos]
  rfl
/-- what __init__ leaves of a fresh exception at x -/
structure InitEnd (h h' : Heap) (x C dx t1 : Addr) (y : Str) (v : Value) : Prop where
  keep : ∀ b o, b ≠ x → h.get? b = some o → h'.get? b = some o
  obj : h'.get? x = some { cls := .ref C, dict := some dx, data := .fields #[.ref t1, .none, .none, .none, .bool false, .none] }
  dbig : h.objs.size ≤ dx
  dne : dx ≠ x
  ns : h'.Ns1 dx (fun z => if z = y then some v else none)

section
variable {prog : Program} {w : World} {A : Around} {E : Value → Shared → Prop} {R : Result → Shared → Prop} {s : Shared} {K : Frag} {mg : Str → Option Value} {C fI : Addr} {y : Str}
/-- the wrapper ValueError.__init__ of x, called: the args are laid anew -/
theorem call_wrap {u x t0 : Addr} {rest : List Value} {h : Heap} {g : Array GenState} {d : Drawn} {t : Nat} {os : OsState} {Q : Value → Shared → Prop}
    {nm q : Str} {N : Addr} {bs bm : List Value} {hdct : Bool} {sn : List Str} {sub : List Value} {ab : Bool} {col : Option Bool} {dd : Option Addr} {k0 k1 k2 k3 k5 : Option Value}
    (hC : h.get? C = some (excClassObj nm q C N bs bm hdct sn sub ab col dd k0 k1 k2 k3 k5 "ValueError.__new__")) (hx : h.get? x = some (excO C t0)) (hu : h.get? u = some (kxs_mw "ValueError.__init__" x)) (hz : rest.length ≤ sizeLine)
    (hq : ∀ h' t1, (∀ b o, b ≠ x → h.get? b = some o → h'.get? b = some o) → h'.get? x = some (excO C t1) → Q .none ⟨h', g, d, t, os⟩) :
    wpAny (model prog w) A (call (.ref u) rest) Q E ⟨h, g, d, t, os⟩ := by
  have FB := PySem.F.excBase_ValueError
  refine wpAny_call (codeAny_of_tree ?_)
  show wpAny _ A.in1 (callAny (.ref u) ⟨rest, []⟩) _ _ _
  simp only [callAny]
  refine wpAny_bind (wpAny_load hu ?_)
  simp only [kxs_mw, show (Value.type "method-wrapper" == Value.type "method" || Value.type "method-wrapper" == Value.type "builtin_function_or_method" || Value.type "method-wrapper" == Value.type "method-wrapper") = true by decide, if_true]
  refine KFB.if_so (by decide) ?_
  refine wpAny_bind (check_bound_init FB.toExcCallFacts hC hx rfl ?_)
  refine wpAny_bind (wpAny_pure (wpAny_pure ?_))
  refine ⟨plainId_quiet FB.init.plain _, codeAny_builtin FB.initEntry ?_⟩
  exact exc_init_tree (cls := .ref C) (t0 := t0) (dv := none) (c2 := .none) (c3 := .none) (b4 := .bool false) hx hz fun h' k e _ => hq h' _ k e

theorem sx_init (T : XTxt K prog y C fI) {x t0 : Addr} {v : Value} (X : K.In s.heap) (G : s.heap.Ns mainGlobals mg) (B : ∃ mb, s.heap.Ns builtinsNs mb ∧ ∀ z : Str, z ≠ "__name__" → mb z = bootBuiltins z) (hlim : s.heap.NoLimit)
    (hx : s.heap.get? x = some (excO C t0)) (hnx : K.lookup x = none) (hroom : A.depth < recursionLimit) {ar : Args} (har : ar = ⟨[.ref x, v], []⟩ ∨ ar = ⟨[.ref x], [(y, v)]⟩)
    (hq : ∀ h' tk dx t1, InitEnd s.heap h' x C dx t1 y v → R (.ok (.ret .none)) { s with heap := h', toks := tk }) :
    codeAny (model prog w) A (.call (.ref fI) ar) R s := by
  obtain ⟨oc, od, qual, doc, pm, an, cda, cc, ct, osl, p1, p2, q1, q2, q3, q4, q5, q6, q7, q8, q9, q10, ho, hcd, ⟨ccl, cdd, vs, ccs, file, tf, hcode, hvs, hfile⟩, hpos, ⟨cl, cld, csl, hcell⟩⟩ := T.fn
  obtain ⟨nm, q, N, bs, bm, sn, sub, ab, col, dd, k0, k1, k2, k3, k5, hC, hbm, hal⟩ := T.cls
  have hcl : clsIn K C = some { name := nm, bases := bs, mro := .ref C :: bm, ns := N, qualname := q, hasDict := true, slotNames := sn, subclasses := sub, abstract := ab, collection := col, hasDel := false } := by unfold clsIn; rw [hC] <;> rfl
  have yo := T.yok
  have e1 : (y == ("self" : Str)) = false := by simpa using yo.nself
  have e2 : (("self" : Str) == y) = false := by simpa using (fun z : ("self" : Str) = y => yo.nself z.symm)
  have ey : (iScope y).names.lookup y = some .local := by
    show (match y == ("self" : Str) with | true => some NameKind.local | false => List.lookup y [(y, NameKind.local), (PySem.Str.ofString "__class__", .free), (PySem.Str.ofString "super", .globalImplicit)]) = _
    rw [e1]
    simp [List.lookup]
  refine ks_codeAny_call_defAt (fd := ksFn "__init__" qual (iArgs y p1 p2) [iSup y q1 q2 q3 q4 q5 q6, iSet y q7 q8 q9 q10] (iScope y) .none .none doc pm an (.ref cda) ct cc) (body := [iSup y q1 q2 q3 q4 q5 q6, iSet y q7 q8 q9 q10]) (binds := [("self", .ref x), (y, v)]) hroom (X _ _ ho) rfl hlim (codeRec_of X hcd) rfl (.of_eq (by rcases har with rfl | rfl; exact yo.bd _ _ _ _ _ _ _ _ _ _ _ _; exact yo.bk _ _ _ _ _ _ _ _ _ _ _ _)) ?_ ?_ (fun h₁ hns hk₁ => ?_) rfl rfl rfl
  · intro z hz
    simp only [ksFn, iScope] at hz
    rcases List.mem_cons.mp hz with rfl | hz
    · decide
    rcases List.mem_cons.mp hz with rfl | hz
    · intro z
      cases z
    rcases List.mem_cons.mp hz with rfl | hz
    · decide
    rcases List.mem_cons.mp hz with rfl | hz
    · decide
    cases hz
  · intro z hz
    rcases List.mem_cons.mp hz with rfl | hz
    · rfl
    rcases List.mem_cons.mp hz with rfl | hz
    · exact ey
    cases hz
  · have X₁ : K.In h₁ := X.keeps hk₁
    have hx₁ := hk₁ _ _ hx
    have eC : (("__class__" : Str) == y) = false := by simpa using (fun z : ("__class__" : Str) = y => yo.nclass z.symm)
    have eS : (("super" : Str) == y) = false := by simpa using (fun z : ("super" : Str) = y => yo.nsuper z.symm)
    have kS : (iScope y).names.lookup ("super" : Str) = some .globalImplicit := by
      show (match ("super" : Str) == y with | true => some NameKind.local | false => some NameKind.globalImplicit) = _
      rw [eS]
    have kC : (iScope y).names.lookup ("__class__" : Str) = some .free := by
      show (match ("__class__" : Str) == y with | true => some NameKind.local | false => some NameKind.free) = _
      rw [eC]
    have mS : ([(("self" : Str), Value.ref x), (y, v)].reverse.lookup ("self" : Str)) = some (.ref x) := by
      show (match ("self" : Str) == y with | true => some v | false => some (Value.ref x)) = _
      rw [e2]
    have mY : ([(("self" : Str), Value.ref x), (y, v)].reverse.lookup y) = some v := by
      show (match y == y with | true => some v | false => _) = _
      simp
    have mroE : (((.ref C :: bm : List Value).dropWhile (· != .ref C)).drop 1) = bm := by simp [List.dropWhile_cons]
    obtain ⟨mb, hb1, hb2⟩ := B
    have hxL : x ≠ s.heap.objs.size := Nat.ne_of_lt (Heap.lt_size hx)
    have hxC : x ≠ C := fun z => by rw [z, hC] at hnx; cases hnx
    have hself := hC
    have I₁ : PySem.W.InstAt h₁ x (excO C t0) C none := ⟨hx₁, rfl, rfl, trivial⟩
    show _root_.PySem.wpAt (model prog w) (A.deeper (ksEnv qual (iScope y) s.heap.objs.size fI (.ref cda) cc)) (.func [iSup y q1 q2 q3 q4 q5 q6, iSet y q7 q8 q9 q10] (ksEnv qual (iScope y) s.heap.objs.size fI (.ref cda) cc))
      (execs [iSup y q1 q2 q3 q4 q5 q6, iSet y q7 q8 q9 q10] (ksEnv qual (iScope y) s.heap.objs.size fI (.ref cda) cc)) _ _ _
    refine ks_wpAt_execs_cons ?_
    refine ks_wpAt_Expr_any ?_
    refine ks_wpAt_MethodCall ?_ (ev_meth1 hpos rfl)
    refine ks_wpAt_super_base (env := ksEnv qual (iScope y) s.heap.objs.size fI (.ref cda) cc) kS kC (by decide) rfl (X₁ _ _ ho) rfl rfl rfl (X₁ _ _ hcode) rfl hvs hfile T.top ?_
    refine ks_loadName_global rfl kS (loadGlobal_builtin (env := ksEnv qual (iScope y) s.heap.objs.size fI (.ref cda) cc) (G.keeps hk₁) (mg_none_of X G T.su) (hb1.keeps hk₁) ((hb2 _ (by decide)).trans (by first | rfl | decide +kernel | kernel_rfl)) ⟨rfl, ?_⟩)
    refine wpAny_loadName_free rfl kC rfl ⟨_, X₁ _ _ hcell, rfl⟩ ?_
    refine wpAny_loadName_local rfl (by rfl) hns mS ?_
    refine ks_wpAny_isType_cls (X₁ _ _ hC) rfl ⟨rfl, ?_⟩
    refine ks_wpAny_call_super (X₁ _ _ hC) rfl hx₁ rfl (fun c e => by cases e) (looks_mroIn X₁ (by unfold mroIn; rw [hcl]; simp)) (fun h₂ hso k₂ => ?_)
    have X₂ : K.In h₂ := X₁.keeps k₂
    have hx₂ := k₂ _ _ hx₁
    have hns₂ : h₂.Ns s.heap.objs.size (fun z => ([(("self" : Str), Value.ref x), (y, v)] : List (Str × Value)).reverse.lookup z) := hns.at fun o e => k₂ _ o e
    have I₂ : PySem.W.InstAt h₂ x (excO C t0) C none := ⟨hx₂, rfl, rfl, trivial⟩
    have hve : mroIn K C (.type "ValueError") = some true := by
      have e0 : (Value.ref C :: bm).contains (.type "ValueError") = true := (List.contains_cons ..).trans (by rw [refsVE_contains "ValueError" _ hbm]; show (false || veTail.contains (Value.type "ValueError")) = true; decide +kernel)
      unfold mroIn
      rw [hcl, Option.bind_some, if_neg (by simp), e0]
    refine kxs_getMethod kxs_ValueError hso (looks_opaque X₂ T.th) (l₀ := .ref C :: bm) (l := bm) (fun A Q E s k q => wpAny_bind ((looks_clsIn X₂ hcl) A _ E s k (wpAny_pure q))) mroE X₂ hal (I₂.type.andThen (looks_mroIn X₂ hve)) hxC (by decide) ?_
    have hu : (h₂.push (kxs_mw "ValueError.__init__" x)).get? h₂.objs.size = some (kxs_mw "ValueError.__init__" x) := Heap.get?_push_size _ rfl
    have k₃ : ∀ b o, h₂.get? b = some o → (h₂.push (kxs_mw "ValueError.__init__" x)).get? b = some o := fun b o e => Heap.get?_push_of_some _ e
    refine kxs_callWith (i := "ValueError.__init__") (x := x) rfl (evalArgs_plain ?_)
    refine Calls.spliced_cons (wpAny_Name (wpAny_loadName_local rfl ey (hns₂.at fun o e => k₃ _ o e) mY ?_) yo.ndebug)
    refine Calls.spliced_nil ⟨hu, ?_⟩
    refine call_wrap (X₂.keeps k₃ _ _ hC) (k₃ _ _ hx₂) hu (by show 1 ≤ sizeLine; decide) fun h₄ t1 k₄ hx₄ => ?_
    have kx : ∀ b o, b ≠ x → s.heap.get? b = some o → h₄.get? b = some o := fun b o hb e => k₄ b o hb (k₃ b o (k₂ b o (hk₁ b o e)))
    have X₄ : K.In h₄ := fun a o e => by
      have hax : a ≠ x := fun z => by rw [z, hnx] at e; cases e
      exact kx a o hax (X a o e)
    have hns₄ : h₄.Ns s.heap.objs.size (fun z => ([(("self" : Str), Value.ref x), (y, v)] : List (Str × Value)).reverse.lookup z) := hns₂.at fun o e => k₄ _ o (Ne.symm hxL) (k₃ _ o e)
    refine wpAt_of_wpAny ?_
    refine wpAny_execs_cons (plainObj_wpAny_Assign_Attribute ?_)
    refine wpAny_Name (wpAny_loadName_local rfl ey hns₄ mY ?_) yo.ndebug
    refine wpAny_Name (wpAny_loadName_local rfl (by rfl) hns₄ mS ?_) (by decide)
    refine set_plain X₄ (ox := excO C t1) (od := none) ⟨hx₄, rfl, rfl, trivial⟩ T.sa ?_
    refine exc_osa X₄ hx₄ hcl (show refsVE (.ref C :: bm) = true from hbm) rfl T.noY (fun h₅ tk₅ dx k₅ dn dne hx₅ hn₅ => ?_)
    have z : s.heap.objs.size ≤ h₄.objs.size := Nat.le_of_lt hns₄.lt
    exact wpAny_execs_nil (hq h₅ tk₅ dx t1 ⟨fun b o hb e => k₅ b o hb (kx b o hb e), hx₅, Nat.le_trans z dn, dne, hn₅⟩)

/-- a made one -/
structure Made (h h' : Heap) (e C d : Addr) (y : Str) (v : Value) : Prop where
  keep : ∀ b o, h.get? b = some o → h'.get? b = some o
  new : h.objs.size ≤ e
  obj : ∃ t1 : Addr, h'.get? e = some ({ cls := .ref C, dict := some d, data := .fields #[.ref t1, .none, .none, .none, .bool false, .none] } : Obj)
  dbig : h.objs.size ≤ d
  dne : d ≠ e
  ns : h'.Ns1 d (fun z => if z = y then some v else none)
theorem one_size (v : Value) : [v].length ≤ sizeLine := by
  rw [sizeLine_eq]
  exact (by decide : 1 ≤ 16777216)
theorem sx_made (T : XTxt K prog y C fI) {v : Value} (X : K.In s.heap) (G : s.heap.Ns mainGlobals mg) (B : ∃ mb, s.heap.Ns builtinsNs mb ∧ ∀ z : Str, z ≠ "__name__" → mb z = bootBuiltins z) (hlim : s.heap.NoLimit) (hroom : A.depth + 1 < recursionLimit)
    (hq : ∀ h' tk e d, Made s.heap h' e C d y v → R (.ok (.ret (.ref e))) { s with heap := h', toks := tk }) :
    codeAny (model prog w) A (.call (.ref C) ⟨[v], []⟩) R s := by
  obtain ⟨nm, q, N, bs, bm, sn, sub, ab, col, dd, k0, k1, k2, k3, k5, hC, hbm, hal⟩ := T.cls
  obtain ⟨hp, g, dr, tk, os⟩ := s
  have k : ∀ b o, hp.get? b = some o → ((hp.push (kdv_tup [v])).push (excO C hp.objs.size)).get? b = some o := fun b o e => Heap.get?_push_of_some _ (Heap.get?_push_of_some _ e)
  have hget : ((hp.push (kdv_tup [v])).push (excO C hp.objs.size)).get? (hp.objs.size + 1) = some (excO C hp.objs.size) := by heap_get
  have hnx : K.lookup (hp.objs.size + 1) = none := by
    cases e : K.lookup (hp.objs.size + 1) with
    | none => rfl
    | some o =>
      have z : hp.get? (hp.objs.size + 1) = some o := X _ _ e
      exact absurd (Nat.lt_of_succ_lt (Heap.lt_size z)) (Nat.lt_irrefl _)
  obtain ⟨mb, hb1, hb2⟩ := B
  refine call_own PySem.F.excBase_ValueError (fun X => refsVE_contains X bm hbm) (X _ _ hC) (looks_findIn X T.iC) (fun self => bind_fn X self T.tC) (one_size v) ?_
  refine sx_init (s := ⟨(hp.push (kdv_tup [v])).push (excO C hp.objs.size), g, dr, tk, os⟩) T (X.keeps k) (G.keeps k) ⟨mb, hb1.keeps k, hb2⟩ (hlim.keeps k) hget hnx ?_ (.inl rfl) fun h' tk' dx t1 ⟨k', hx, dn, dne, hns⟩ => ?_
  · show A.depth + 1 < recursionLimit
    exact hroom
  · have old : ∀ b o, hp.get? b = some o → h'.get? b = some o := fun b o e => k' b o (Nat.ne_of_lt (Nat.lt_succ_of_lt (Heap.lt_size e))) (k b o e)
    have z : hp.objs.size + 1 + 1 ≤ dx := by
      have q := dn
      rw [Heap.size_push, Heap.size_push] at q
      exact q
    exact ⟨rfl, hq h' tk' (hp.objs.size + 1) dx ⟨old, Nat.le_succ _, ⟨t1, hx⟩, Nat.le_trans (Nat.le_trans (Nat.le_succ _) (Nat.le_succ _)) z, dne, hns⟩⟩
end
end Sx
namespace L2
open PySem PySem.Spec PyProof.Rows
theorem relO_y {y : Str} {v : V} {v' : Value} (r : RelV v v') (f : Str) : RelO (List.lookup f [(y, v)]) (if f = y then some v' else none) := by
  by_cases hw : f = y
  · subst hw
    rw [if_pos rfl]
    have q : List.lookup f [(f, v)] = some v := by simp [List.lookup]
    rw [q]
    exact r
  · rw [if_neg hw]
    have qw : (f == y) = false := by simpa using hw
    have q2 : List.lookup f [(y, v)] = none := by simp [List.lookup, qw]
    rw [q2]
    trivial
section
variable {X : Cx} {C fI : Addr} {y x : Str}
end
end L2
/-! The same, made by a call with one keyword: C(y = a). -/
namespace Sx
section
open PySem PySem.Spec PySem.HandSPX Builtin
section
variable {M : Model} {A : Around} {E : Value → Shared → Prop} {h : Heap} {g : Array GenState} {d : Drawn} {t : Nat} {os : OsState}
variable {nm q : Str} {C N : Addr} {bs bm bmB : List Value} {hdct : Bool} {sn : List Str} {sub : List Value} {ab : Bool} {col : Option Bool} {dd : Option Addr} {k0 k1 k2 k3 k5 : Option Value} {B newId initId : String}
end
section
variable {prog : Program} {w : World} {A : Around} {E : Value → Shared → Prop} {R : Result → Shared → Prop} {h : Heap} {g : Array GenState} {d : Drawn} {t : Nat} {os : OsState}
variable {nm q : Str} {C N : Addr} {bs bm bmB : List Value} {hdct : Bool} {sn : List Str} {sub : List Value} {ab : Bool} {col : Option Bool} {dd : Option Addr} {k0 k1 k2 k3 k5 : Option Value} {B newId initId : String}

end
end
open PySem PySem.Spec PySem.W PySem.Calls PyProof.Rows PySem.HandSPX
section
variable {prog : Program} {w : World} {A : Around} {E : Value → Shared → Prop} {R : Result → Shared → Prop} {s : Shared} {K : Frag} {mg : Str → Option Value} {C fI : Addr} {y : Str}
end
end Sx
namespace L2
open PySem PySem.Spec PyProof.Rows
section
variable {X : Cx} {C fI : Addr} {y x : Str}
end
end L2
/-! Reads and isinstance of a held exception; C() of a class without an own __init__. -/
namespace Sx
open PySem PySem.Spec PySem.W PySem.Calls PyProof.Rows
section
variable {prog : Program} {w : World} {A : Around} {E : Value → Shared → Prop} {s : Shared} {K : Frag} {x D : Addr} {ox : Obj} {od : Option Obj}
theorem found_class (T : L2.ExcC K D) : findObj K D od "__class__" = some (.bind (.builtin "getset_descriptor.__get__") (.builtin "object.__class__")) := by
  obtain ⟨cd, hc, _⟩ := any_some T.hd
  show (clsIn K D).bind _ = _
  simp [hc, T.ha, T.hn, T.ht]
/-- x.__class__ of a held exception, whatever its dict -/
theorem class_of_exc {Q : Option Value → Shared → Prop} (T : L2.ExcC K D) (X : K.In s.heap) (I : InstAt s.heap x ox D od) (h : Q (some (.ref D)) { s with toks := s.toks + 1 }) : wpAny (model prog w) A (getAttr? (.ref x) "__class__") Q E s := by
  obtain ⟨hp, g, d, t, os⟩ := s
  have ty := I.type (M := model prog w)
  have ga := looks_findIn (M := model prog w) X T.hg
  have gt := looks_findIn (M := model prog w) X T.hk
  have fi := looks_find (M := model prog w) X I (found_class (od := od) T)
  have sb : Looks (model prog w) hp (isInstance (.ref x) (.type "BaseException")) true := ty.andThen (looks_subIn X T.hs)
  have n0 : (Value.builtin "BaseException.__getattribute__" == Value.builtin "object.__getattribute__") = false := by decide +kernel
  unfold getAttr? getAttrBy? getAttrBy
  refine wpAny_bind (wpAny_mkText (wpAny_bind (wpAny_attempt (wpAny_holding (wpAny_bind (ty.at (wpAny_bind (ga.at ?_))))))))
  show wpAny _ _ (if (onTheHeap (Value.ref D) && Value.builtin "BaseException.__getattribute__" == Value.builtin "object.__getattribute__") = true then _ else _) _ _ _
  rw [n0, Bool.and_false, if_neg Bool.false_ne_true]
  unfold getAttrByItsOwn hookBefore
  refine wpAny_bind ?_
  rw [if_pos (show onTheHeap (Value.ref D) = true from rfl)]
  refine gt.at (wpAny_bind (wpAny_attempt (wpAny_holding ?_)))
  unfold callGetattribute
  rw [show (false && onTheHeap (Value.builtin "BaseException.__getattribute__")) = false from rfl, if_neg Bool.false_ne_true]
  unfold boundAndCalled
  rw [PySem.F.excAttr_ValueError.ga.bind (.ref x)]
  refine wpAny_bind (wpAny_pure ?_)
  show wpAny _ _ (call (.builtin "BaseException.__getattribute__") [.ref x, .str "__class__" t]) _ _ _
  refine wpAny_call (codeAny_call_builtin PySem.F.excAttr_ValueError.ga.plain PySem.F.entry_bexc_ga ?_)
  refine @check_slot (model prog w) _ _ ⟨hp, g, d, t + 1, os⟩ "BaseException.__getattribute__" "BaseException" "__getattribute__" (.ref x) [.str "__class__" t] [] _ (by decide +kernel) (by decide +kernel) sb (PySem.F.args_bexc_ga (.ref x) (.str "__class__" t)) ?_
  unfold Builtin.«object.__getattribute__»
  refine wpAny_bind (wpAny_of_eq (a := ((Value.ref x : Value), [Value.str "__class__" t])) (by first | rfl | (simp only [slotArgs]; rfl)) ?_)
  refine wpAny_bind (wpAny_pure (wpAny_bind (ty.at (wpAny_bind (fi.at ?_)))))
  show wpAny _ _ (holding [Value.builtin "object.__class__"] (call (.builtin "getset_descriptor.__get__") [.builtin "object.__class__", .ref x, .ref D]) >>= ret) _ _ _
  refine wpAny_bind (wpAny_holding (wpAny_call (class_get (s := ⟨hp, g, d, t + 1, os⟩) (ox := ox) (od := od) X I T.hm ?_)))
  refine wpAny_pure ?_
  show wpAny _ _ (handedOut (.ref D)) _ _ _
  rw [handedOut_of (v := .ref D) rfl]
  first
    | exact wpAny_pure (wpAny_pure h)
    | exact wpAny_pure h
    | exact wpAny_pure (wpAny_bind (wpAny_pure (wpAny_pure h)))
/-- what isinstance asks of a held exception -/
theorem kit_exc (T : L2.ExcC K D) : KitX K (.ref x) (.ref D) (fun h => InstAt h x ox D od) where
  ty := fun _ _ _ I => I.type
  it := fun M h X _ => by
    obtain ⟨cd, hc, _⟩ := any_some T.hd
    unfold clsIn at hc
    split at hc
    · rename_i ho
      intro A0 Q0 E0 s0 k q
      unfold isType loadHead
      exact wpAny_bind (wpAny_loadPart (k _ _ (X _ _ ho)) (wpAny_pure q))
    · cases hc
  ne := fun h tp dd its n sl X htp => (handS_kitx_exc (x := x) (ox := ox) T.hg T.hk T.hs T.hd T.ha T.hn T.ht T.hm).ne h tp dd its n sl X htp
  ca := fun X I k => class_of_exc T X I k
end
end Sx
namespace L2
open PySem PySem.Spec PyProof.Rows
section
variable {X : Cx} {pins : List (Addr × Obj)} {σ : St} {H : Hp} {s : Shared} {a C : Addr} {d : Option Addr}
theorem exo_inst (I : Inv X pins σ H s) (e : H a = some (exo a C none)) : ∃ ox, PySem.W.InstAt s.heap a ox C none := by
  obtain ⟨t1, h⟩ := exo_at I.hok e
  exact ⟨_, h, rfl, rfl, trivial⟩
theorem exo_inst1 {dd : Addr} {fs : List (Str × V)} (I : Inv X pins σ H s) (e : H a = some (exo a C (some dd))) (ed : H dd = some (.xd fs)) :
    ∃ ox od, PySem.W.InstAt s.heap a ox C (some od) ∧ ∀ n v, fs.lookup n = some v → ∃ u, PySem.W.lookIn n od = some (some u) ∧ RelV v u := by
  obtain ⟨t1, h⟩ := exo_at I.hok e
  obtain ⟨mA, hns, hr⟩ := (show ObjOk X.prog X.w H s.heap dd (.xd fs) from I.hok dd _ ed)
  obtain ⟨od, ho, hl⟩ := lookIn_ns hns
  refine ⟨_, od, ⟨h, rfl, rfl, ho⟩, fun n v q => ?_⟩
  obtain ⟨u, hu, ru⟩ := RelO.some_of (v := v) (o := mA n) (by rw [← q]; exact hr n)
  exact ⟨u, by rw [hl, hu], ru⟩
/-- a value's type: held exceptions, too -/
inductive TyW (K : PySem.W.Frag) (H : Hp) : V → Value → Prop where
  | base {x : V} {t : Value} (h : TyX K H x t) : TyW K H x t
  | exc {a D : Addr} (T : ExcC K D) (e : H a = some (exo a D none)) : TyW K H (.ref a) (.ref D)
  | excd {a D dd : Addr} {fs : List (Str × V)} (T : ExcC K D) (e : H a = some (exo a D (some dd))) (ed : H dd = some (.xd fs)) : TyW K H (.ref a) (.ref D)
theorem kit_ofW {x : V} {u t : Value} (I : Inv X pins σ H s) (rx : RelV x u) (ty : TyW X.K H x t) : ∃ P : Heap → Prop, PySem.W.KitX X.K u t P ∧ P s.heap ∧ u ≠ .builtin "__main__.__loader__#opaque" := by
  cases ty with
  | base h => exact kit_of I rx h
  | @exc a D T e =>
    cases (show u = Value.ref a from rx)
    obtain ⟨ox, J⟩ := exo_inst I e
    exact ⟨_, Sx.kit_exc (od := none) T, J, fun z => nomatch z⟩
  | @excd a D dd fs T e ed =>
    cases (show u = Value.ref a from rx)
    obtain ⟨ox, od, J, _⟩ := exo_inst1 I e ed
    exact ⟨_, Sx.kit_exc (od := some od) T, J, fun z => nomatch z⟩
/-- isinstance(x, c), one class -/
def rIsW (K : PySem.W.Frag) : List V → Hp → VK → Prop := fun xs H Q => ∃ (x c : V) (t u : Value) (b : Bool), xs = [x, c] ∧ ClsV c u ∧ TyW K H x t ∧ PySem.W.kitOne K t u = some b ∧ Q (.bl b) H
/-- isinstance(x, (c, ..)), the tuple just laid -/
def rIsWT (K : PySem.W.Frag) : List V → Hp → VK → Prop := fun xs H Q => ∃ (x : V) (tp : Addr) (cs : List V) (t : Value) (us : List Value) (b : Bool), xs = [x, .ref tp] ∧ H tp = some (.tup cs) ∧ Paired ClsV cs us ∧ TyW K H x t ∧ PySem.W.kitAny K t us = some b ∧ Q (.bl b) H
theorem call_isW : CallR X (.builtin "isinstance") (rIsW X.K) := by
  intro pins s σ H xs us Q I r ⟨x, c, t, u, b, ex, k, ty, e, q⟩
  subst ex
  obtain ⟨u1, u2, rfl, r1, r2⟩ := vals2 r
  obtain rfl := k.eq r2
  obtain ⟨P, Z, p, hx⟩ := kit_ofW I r1 ty
  exact PySem.W.kia_one Z I.kIn p e hx fun tk => ⟨.bl b, H, I.tok tk, rfl, q⟩
theorem call_isWT : CallR X (.builtin "isinstance") (rIsWT X.K) := by
  intro pins s σ H xs us Q I r ⟨x, tp, cs, t, ws, b, ex, hT, k, ty, e, q⟩
  subst ex
  obtain ⟨u1, u2, rfl, r1, r2⟩ := vals2 r
  cases (show u2 = Value.ref tp from r2)
  obtain ⟨P, Z, p, hx⟩ := kit_ofW I r1 ty
  obtain ⟨_, its, rv, o, h1, h2, n, h3⟩ := (show ObjOk X.prog X.w H s.heap tp (.tup cs) from I.hok tp _ hT)
  obtain rfl := ClsV.all k rv
  obtain ⟨oc, od, dt, sl⟩ := o
  simp only at h2 h3
  subst h2 h3
  exact PySem.W.kia_tup Z I.kIn p h1 e hx fun tk => ⟨.bl b, H, I.tok tk, rfl, q⟩
end
end L2
/-! for k, x in enumerate(t), t a tuple. -/
namespace Et
open PySem PySem.Spec PyProof.Rows
theorem meets_new {v : Value} {o : Obj} {H : Heap → Prop} (B : Begins v o H) : Meets (Builtin.«enumerate.__new__» ⟨[.type "enumerate", v], []⟩) (fun _ R s => H s.heap ∧
    R (.ok (.ret (.ref (s.heap.push o).objs.size))) { s with heap := (s.heap.push o).push { cls := .type "enumerate", data := .fields #[.none, .bool false, .ref s.heap.objs.size, rawInt 0, .none, .none] } }) :=
  .of_wp fun prog w A R s h => by
    obtain ⟨hp, g, d, tk, os⟩ := s; obtain ⟨h1, h⟩ := h
    have hsub := sub_enumerate
    have q1 : ∀ {A' : Around} {E : Value → Shared → Prop} {Q : Value → Shared → Prop}, Q (.ref hp.objs.size) ⟨hp.push o, g, d, tk, os⟩ → wpAny (model prog w) A' (pyIter v) Q E ⟨hp, g, d, tk, os⟩ :=
      fun q => B.iter prog w _ _ ⟨hp, g, d, tk, os⟩ _ h1 q
    wp_walk using q1
    refine wpAny_stack_any fun st => wpAny_pure ?_
    split
    · rename_i c _ _ _ _ _
      cases (c == Value.type "enumerate") <;> (wp_walk using q1; exact ⟨_, rfl, h⟩)
    · wp_walk using q1
      exact ⟨_, rfl, h⟩
theorem begins {prog : Program} {w : World} {A : Around} {E : Value → Shared → Prop} {s : Shared} {v : Value} {o : Obj} {H : Heap → Prop} {Q : Value → Shared → Prop} (B : Begins v o H) (h1 : H s.heap)
    (h : ∀ h', IsEnum h' (s.heap.objs.size + 1) s.heap.objs.size 0 .none → h'.get? s.heap.objs.size = some o → h'.objs.size = s.heap.objs.size + 2 → (∀ b o, s.heap.get? b = some o → h'.get? b = some o) → Q (.ref (s.heap.objs.size + 1)) { s with heap := h' }) :
    wpAny (model prog w) A (call (.type "enumerate") [v]) Q E s := by
  refine callType_new F.called_enumerate (by decide) (F.typeCall_enumerate_1 _) (F.newCall_enumerate_1 _) (fun obj => F.args_object_init_2 obj _) F.entry_enumerate_new (meets_new B) ⟨h1, ?_⟩
  have hz : (s.heap.push o).objs.size = s.heap.objs.size + 1 := Heap.size_push ..
  show _ ∧ _
  rw [hz]
  have he : IsEnum ((s.heap.push o).push { cls := .type "enumerate", data := .fields #[.none, .bool false, .ref s.heap.objs.size, rawInt 0, .none, .none] }) (s.heap.objs.size + 1) s.heap.objs.size 0 .none := by
    have q := Heap.get?_push_size (s.heap.push o) (o := { cls := .type "enumerate", data := .fields #[.none, .bool false, .ref s.heap.objs.size, rawInt 0, .none, .none] }) rfl
    rw [hz] at q
    exact q
  exact ⟨⟨_, he, rfl⟩, h _ he (Heap.get?_push_of_some _ (Heap.get?_push_size _ B.free)) (by rw [Heap.size_push, hz]) fun b o x => Heap.get?_push_of_some _ (Heap.get?_push_of_some _ x)⟩
end Et
namespace L2
open PySem PySem.Spec PyProof.Rows
/-- the tuple at a, each item in a new pair with its place -/
def ItEt (K : PySem.W.Frag) (a : Addr) : It :=
  ⟨fun i H => ∃ xs, SqT K H a xs ∧ i < xs.length, fun i H v H' => ∃ T x, v = .ref T ∧ H T = none ∧ H' = upd H T (.tup [.int (i : Nat), x]) ∧ ∀ xs, SqT K H a xs → xs[i]? = some x, fun i H => ∃ xs, SqT K H a xs ∧ xs.length = i⟩
theorem it_ne {h : Heap} {it a : Addr} {i : Nat} {its : Array Value} (p : h.IsTupleIter it a i) (q : h.IsTuple a its) : a ≠ it := by
  intro z
  obtain ⟨o, e, c, _⟩ := p
  obtain ⟨o', e', c', _⟩ := q
  rw [z, e] at e'
  cases e'
  rw [c] at c'
  exact absurd (Value.type.inj c') (by decide)
theorem turn_enumT {P : Program} {w : World} {K : PySem.W.Frag} {elts : List Expr} {kk : Nat} {tpos : Pos} (a e it : Addr) :
    Turn P w K (.Tuple elts kk tpos) (ItEt K a) [e, it] e (fun i h => (∃ old, IsEnum h e it ((i : Nat) : Int) old) ∧ h.IsTupleIter it a i ∧ e ≠ it) where
  mem := by simp
  obj := fun i h st b hb => by
    obtain ⟨⟨old, he⟩, ⟨o, ho, hc, hd⟩, _⟩ := st
    have e' : b = e ∨ b = it := by simpa using hb
    rcases e' with z | z
    · rw [z]; exact ⟨_, he, fun v q => nomatch q⟩
    · rw [z]; exact ⟨o, ho, fun v q => by rw [hd] at q; cases q⟩
  keep := fun i h h' st k => let ⟨⟨old, he⟩, hi, hne⟩ := st; ⟨⟨old, k e (by simp) _ he⟩, hi.at fun o q => k it (by simp) o q, hne⟩
  item := by
    intro X hP hw hK hc i pins s σ H E I hf st hg
    subst hP hw hK
    obtain ⟨⟨old, he⟩, hit, hne⟩ := st
    obtain ⟨xs, hq, hx⟩ := hg
    obtain ⟨its, rv, p, hz⟩ := I.tuple hq
    have ht : s.heap.IsTuple a its.toArray := p
    have na := it_ne hit ht
    have hel : e < s.heap.objs.size := Heap.lt_size he
    have hil : it < s.heap.objs.size := by obtain ⟨_, q, _⟩ := hit; exact Heap.lt_size q
    have hae : e ≠ a := fun z => by
      obtain ⟨o', e', c', _⟩ := ht
      rw [← z, he] at e'
      cases e'
      exact absurd (Value.type.inj c') (by decide)
    have hef : e ∉ [it, a] := by simp [hne, hae]
    have hn : its.length = xs.length := rv.length.symm
    refine wpAny_pyNext_enum_itemD (St := fun i h => h.IsTupleIter it a i ∧ h.IsTuple a its.toArray) (Draws.tuple (A := X.A.in1) (I.ok.hd hc) it a na its.toArray) he ⟨hit, ht⟩ (by simp; omega) hne hef fun x h' tk hp ho hst hT hsz hk => ?_
    refine ⟨_, rfl, wpAny_letOwnedTupleGo_enum (s := { s with heap := h', toks := tk + 1 }) ho fun h'' he' sb => ?_⟩
    have hp2 : its[i]? = some x := by simpa using hp
    obtain ⟨y, hy⟩ : ∃ y, xs[i]? = some y := ⟨xs[i], by simp [hx]⟩
    obtain ⟨u, hu, ry⟩ := rv.get hy
    rw [hp2] at hu
    cases hu
    have hT2 : h''.get? s.heap.objs.size = some { cls := .type "tuple", data := .seq #[.int i tk, x] } := (sb.2 _ (Nat.ne_of_gt hel)).trans hT
    have new : ObjOk X.prog X.w (upd H s.heap.objs.size (.tup [.int (i : Nat), y])) h'' s.heap.objs.size (.tup [.int (i : Nat), y]) :=
      ⟨by show 2 ≤ sizeLine; decide, [.int i tk, x], .cons ⟨_, rfl⟩ (.cons ry .nil), ⟨_, hT2, rfl, _, rfl⟩⟩
    have I1 : Inv X pins σ (upd H s.heap.objs.size (.tup [.int (i : Nat), y])) { s with heap := h'', toks := tk + 1 } :=
      I.turnedNew (ch := [e, it]) (fun b ob hb q => (sb.2 b (fun z => hb (by simp [z]))).trans (hk b ob (fun z => hb (by simp [z])) (fun z => hb (by simp [z])) q)) hf (Nat.le_refl _) new
    refine ⟨.ref s.heap.objs.size, _, I1, rfl, ⟨_, y, rfl, I.hok.fresh (Nat.le_refl _), rfl, fun ys hy' => by rw [I.tuple_inj hy' hq]; exact hy⟩, ⟨⟨x, ?_⟩, hst.1.at fun o q => (sb.2 it (Ne.symm hne)).trans q, hne⟩, fun b hb => ?_⟩
    · have e1 : ((i + 1 : Nat) : Int) = (i : Int) + 1 := by omega
      rw [e1]; exact he'
    · have hb' : b < s.heap.objs.size := by
        have e' : b = e ∨ b = it := by simpa using hb
        rcases e' with z | z <;> (rw [z]; assumption)
      rw [upd_ne (Nat.ne_of_lt hb')]
      exact (hf b hb).1
  done := by
    intro X hP hw hK hc i pins s σ H E I hf st hg
    subst hP hw hK
    obtain ⟨⟨old, he⟩, hit, hne⟩ := st
    obtain ⟨xs, hq, hx⟩ := hg
    obtain ⟨its, rv, p, hz⟩ := I.tuple hq
    have ht : s.heap.IsTuple a its.toArray := p
    obtain ⟨f0, f1, f2, f3, f4, f5⟩ := hf it (by simp)
    have hn : its.toArray.size = i := by have := rv.length; simp; omega
    refine wpAny_pyNext_enum_endD (St := fun i h => h.IsTupleIter it a i ∧ h.IsTuple a its.toArray) (Draws.tuple (A := X.A.in1) (I.ok.hd hc) it a (it_ne hit ht) its.toArray) he (by rw [hn]; exact ⟨hit, ht⟩) fun h' eb => ⟨rfl, I.turned (t' := s.toks) (fun b o hb q => eb b o hb q) f0 f1 f3 f4 f5⟩
  self := fun A i s Q E st h => let ⟨⟨_, he⟩, _⟩ := st; wpAny_pyIter_enum he h
def iEnumT (K : PySem.W.Frag) (ta : TA) : TI := fun σ H R => ta σ H fun vs H1 => ∃ a xs, vs = [.ref a] ∧ SqT K H1 a xs ∧ R (ItEt K a) H1
theorem pi_enumT {X : Cx} {e : Expr} {ta : TA} {p pos tpos : Pos} {elts : List Expr} {kk : Nat} (hg : Gl X "enumerate") (hm : X.mg "enumerate" = none) (ha : PA X [e] ta) (hs : starEach [e] X.env = [(false, eval e X.env)] := by rfl) :
    PI X (.Tuple elts kk tpos) (.Call (.Name "enumerate" p) [e] [] pos) (iEnumT X.K ta) := by
  refine ⟨fun pins s σ H R I h => ?_⟩
  refine Call_ (ld_blt I hg hm boot_enumerate (PyProof.Rows.callWith_type1 (thn (ha.run pos pins s σ H _ I h) fun us s1 ⟨vs, H1, I1, r1, q1⟩ => ?_) hs rfl))
  obtain ⟨a, xs, ex, hq, q⟩ := q1
  subst ex
  cases r1 with
  | cons r rr =>
    cases rr
    cases r
    obtain ⟨its, rv, p', hz⟩ := I1.tuple hq
    refine Et.begins (begins_tuple a its.toArray) p' fun h' he hit hsz hk => wpAny_pyIter_enum he ?_
    have I2 : Inv X pins σ H1 { s1 with heap := h' } := I1.kept (t' := s1.toks) hk
    refine ⟨s1.heap.objs.size + 1, [s1.heap.objs.size + 1, s1.heap.objs.size], _, _, H1, rfl, I2, turn_enumT a (s1.heap.objs.size + 1) s1.heap.objs.size, ⟨⟨.none, he⟩, ⟨_, hit, rfl, rfl⟩, Nat.succ_ne_self _⟩, fun b hb => ?_, q⟩
    have e' : b = s1.heap.objs.size + 1 ∨ b = s1.heap.objs.size := by simpa using hb
    have hle : s1.heap.objs.size ≤ b := by
      rcases e' with z | z
      · rw [z]; exact Nat.le_add_right _ _
      · rw [z]; exact Nat.le_refl _
    exact I1.fpOk hle (I1.hok.fresh hle)
end L2
/-! Operators by all the kinds that the laws use; rules of Ev for them; the heap but one object. -/
namespace L2
open PySem PySem.Spec PyProof.Rows
section
variable {X : Cx}
def rAddS : R2 := fun x y H Q => ∃ i j, x = .str i ∧ y = .str j ∧ i.length + j.length ≤ sizeLine ∧ Q (.str (i ++ j)) H
def rAddU (K : PySem.W.Frag) : R2 := fun x y H Q => rI0 (fun i j => .int (i + j)) x y H Q ∨ rCat x y H Q ∨ rCatA K x y H Q ∨ rAddS x y H Q
theorem uAdd (K : PySem.W.Frag) (hK : X.K = K := by rfl) : OpR X (binaryOp .Add) (rAddU K) := by
  subst hK
  exact OpR.or op_add (OpR.or op_cat (OpR.or op_catA op_add_str))
/-- a text over and over -/
def rMulS : R2 := fun x y H Q => ∃ z n, x = .str z ∧ y = .int n ∧ MulOk z n ∧ Q (.str (Txt.mul z n)) H
theorem op_mulS : OpR X (binaryOp .Mult) rMulS := by
  intro pins s σ H x y v u Q I rx ry h
  obtain ⟨z, n, rfl, rfl, hz, q⟩ := h
  obtain ⟨t, rfl⟩ := rx
  obtain ⟨t', rfl⟩ := ry
  exact SB.mul hz fun t' k => ⟨.str (Txt.mul z n), H, I.kept (t' := k) fun _ _ z => z, ⟨_, rfl⟩, q⟩
def rMulU : R2 := fun x y H Q => rI CMul (fun i j => .int (i * j)) x y H Q ∨ rRep x y H Q ∨ rMulS x y H Q
theorem uMul : OpR X (binaryOp .Mult) rMulU := OpR.or op_mul (OpR.or op_rep op_mulS)
/-! dicts of data compared -/
def DpK (K : PySem.W.Frag) (H : Hp) (ks : List (Key × V)) (ds : List (Key × PyData)) : Prop := Paired (fun (p : Key × V) (q : Key × PyData) => p.1 = q.1 ∧ Dp K H p.2 q.2 ∧ (SeqAt.shaped q.2 = true ∧ q.2.depth ≤ 60)) ks ds
def lkP (es : List (Key × PyData)) (k : Key) : Option PyData := (es.find? fun kv => decide (kv.1 = k)).map (·.2)
def hitP (es ds : List (Key × PyData)) : Bool := ds.all fun p => match lkP es p.1 with
  | some u => PyData.eqv p.2 u
  | none => false
theorem dpk_val {K : PySem.W.Frag} {H : Hp} {k : Key} : ∀ {ls : List (Key × V)} {es : List (Key × PyData)} {vb : List (Key × Value)}, DpK K H ls es → KV ls vb → match lkP es k with
    | none => valueAt vb k = none
    | some u => ∃ x y, valueAt vb k = some y ∧ RelV x y ∧ Dp K H x u ∧ (SeqAt.shaped u = true ∧ u.depth ≤ 60) := by
  intro ls es vb h
  unfold DpK at h
  induction h generalizing vb with
  | nil =>
    intro r
    cases r
    rfl
  | @cons p q ps qs h t ih =>
    intro r
    cases r with
    | @cons _ v _ vs r1 r2 =>
      obtain ⟨k1, x⟩ := p
      obtain ⟨k2, d⟩ := q
      obtain ⟨k3, y⟩ := v
      obtain ⟨e1, h1, h2⟩ := h
      obtain ⟨e2, r1⟩ := r1
      have e1 : k1 = k2 := e1
      have e2 : k1 = k3 := e2
      subst e1 e2
      by_cases e : k1 = k
      · have q1 : lkP ((k1, d) :: qs) k = some d := by simp [lkP, List.find?_cons, e]
        rw [q1]
        exact ⟨x, y, by simp [valueAt, List.find?_cons, e], r1, h1, h2⟩
      · have q1 : lkP ((k1, d) :: qs) k = lkP qs k := by simp [lkP, List.find?_cons, e]
        have q2 : valueAt ((k1, y) :: vs) k = valueAt vs k := by simp [valueAt, List.find?_cons, e]
        rw [q1, q2]
        exact ih r2
theorem dpk_hits {pins : List (Addr × Obj)} {σ : St} {H : Hp} {s : Shared} (I : Inv X pins σ H s) {A : Around} (hu : A.units + 61 < cLine) {ls : List (Key × V)} {es : List (Key × PyData)} {vb : List (Key × Value)} (hl : DpK X.K H ls es) (rb : KV ls vb) :
    ∀ {ks : List (Key × V)} {ds : List (Key × PyData)} {va : List (Key × Value)}, DpK X.K H ks ds → KV ks va → PySem.W.KeqHits A s vb va (hitP es ds) := by
  intro ks ds va h
  unfold DpK at h
  induction h generalizing va with
  | nil =>
    intro r
    cases r
    exact .nil
  | @cons p q ps qs h t ih =>
    intro r
    cases r with
    | @cons _ v _ vs r1 r2 =>
      obtain ⟨k1, x⟩ := p
      obtain ⟨k2, d⟩ := q
      obtain ⟨k3, y⟩ := v
      obtain ⟨e1, h1, h2⟩ := h
      obtain ⟨e2, r1⟩ := r1
      have e1 : k1 = k2 := e1
      have e2 : k1 = k3 := e2
      subst e1 e2
      have z := dpk_val (k := k1) hl rb
      have eh : hitP es ((k1, d) :: qs) = ((match lkP es k1 with
        | some u => PyData.eqv d u
        | none => false) && hitP es qs) := rfl
      rw [eh]
      cases e : lkP es k1 with
      | none =>
        rw [e] at z
        exact .miss z
      | some u =>
        rw [e] at z
        obtain ⟨x', y', z1, z2, z3, z4⟩ := z
        obtain ⟨as, ra⟩ := Dp.reads I d x y h1 r1
        obtain ⟨bs, rb'⟩ := Dp.reads I u x' y' z3 z2
        refine .hit z1 (SeqAt.eqAt_reads d u A s y y' as bs ra rb' (SeqAt.canLay_of_shaped h2.1) (SeqAt.canLay_of_shaped z4.1) ?_) (ih r2)
        have := h2.2
        have := Nat.min_le_left d.depth u.depth
        omega
def rEqK (K : PySem.W.Frag) : R2 := fun x y H Q => ∃ a b ks ls ds es, x = .ref a ∧ y = .ref b ∧ Rd H a (.dK ks) ∧ Rd H b (.dK ls) ∧ DpK K H ks ds ∧ DpK K H ls es ∧ Q (.bl (ks.length == ls.length && hitP es ds)) H
def rNeK (K : PySem.W.Frag) : R2 := fun x y H Q => ∃ a b ks ls ds es, x = .ref a ∧ y = .ref b ∧ Rd H a (.dK ks) ∧ Rd H b (.dK ls) ∧ DpK K H ks ds ∧ DpK K H ls es ∧ Q (.bl (!(ks.length == ls.length && hitP es ds))) H
theorem op_eqK (hu : X.A.units + 64 < cLine) : OpR X (compareOp .Eq) (rEqK X.K) := by
  intro pins s σ H x y v u Q I rx ry h
  obtain ⟨a, b, ks, ls, ds, es, rfl, rfl, ha, hb, hd, he, q⟩ := h
  obtain rfl : v = Value.ref a := rx
  obtain rfl : u = Value.ref b := ry
  obtain ⟨_, ya, va, ra, da⟩ := dk_rd I.hok ha
  obtain ⟨_, yb, vb, rb, db⟩ := dk_rd I.hok hb
  refine PySem.W.keq_eq (knd := mixKind X.prog X.w) (r := hitP es ds) ya yb da db (by omega) (fun _ => dpk_hits I (by show X.A.units + 1 + 61 < cLine; omega) he rb hd ra) (fin_bl I q ?_)
  rw [ra.length, rb.length]
theorem op_neK (hu : X.A.units + 64 < cLine) : OpR X (compareOp .NotEq) (rNeK X.K) := by
  intro pins s σ H x y v u Q I rx ry h
  obtain ⟨a, b, ks, ls, ds, es, rfl, rfl, ha, hb, hd, he, q⟩ := h
  obtain rfl : v = Value.ref a := rx
  obtain rfl : u = Value.ref b := ry
  obtain ⟨_, ya, va, ra, da⟩ := dk_rd I.hok ha
  obtain ⟨_, yb, vb, rb, db⟩ := dk_rd I.hok hb
  refine PySem.W.keq_ne (knd := mixKind X.prog X.w) (r := hitP es ds) ya yb da db (by omega) (fun _ => dpk_hits I (by show X.A.units + 1 + 61 < cLine; omega) he rb hd ra) (fin_bl I q ?_)
  rw [ra.length, rb.length]
def rEqU (K : PySem.W.Frag) : R2 := fun x y H Q => rEq x y H Q ∨ rEqV K x y H Q ∨ rEqD K x y H Q ∨ rEqK K x y H Q
theorem uEq (K : PySem.W.Frag) (hu : X.A.units + 64 < cLine) (hK : X.K = K := by rfl) : OpR X (compareOp .Eq) (rEqU K) := by
  subst hK
  exact OpR.or op_eq (OpR.or (op_eqV hu) (OpR.or (op_eqD hu) (op_eqK hu)))
def rNeU (K : PySem.W.Frag) : R2 := fun x y H Q => rNe x y H Q ∨ rNeD K x y H Q ∨ rNeK K x y H Q
theorem uNe (K : PySem.W.Frag) (hu : X.A.units + 64 < cLine) (hK : X.K = K := by rfl) : OpR X (compareOp .NotEq) (rNeU K) := by
  subst hK
  exact OpR.or op_ne (OpR.or (op_neD hu) (op_neK hu))
theorem uIx (K : PySem.W.Frag) (hK : X.K = K := by rfl) : IxR X (rIx K) := by
  subst hK
  exact ix_seq
theorem uSl (K : PySem.W.Frag) (hK : X.K = K := by rfl) : SlR X (rSlL K) := by
  subst hK
  exact sl_list
theorem hu64 {k : Nat} {A : Around} (hr : Room k A) : A.units + 64 < cLine := by have := hr.un; omega
theorem u_len (K : PySem.W.Frag) (hK : X.K = K := by rfl) : CallR X (.builtin "len") (Evl.rLenS K) := by
  subst hK
  exact call_len_seq
def rIntU : List V → Hp → VK → Prop := fun xs H Q => (∃ i, xs = [.int i] ∧ Q (.int i) H) ∨ ∃ k, xs = [.bl k] ∧ Q (.int (if k then 1 else 0)) H
theorem uC_int : CallR X (.type "int") rIntU := call_int1
def rIsU (K : PySem.W.Frag) : List V → Hp → VK → Prop := fun xs H Q => rIsW K xs H Q ∨ rIsWT K xs H Q
theorem u_isinstance (K : PySem.W.Frag) (hK : X.K = K := by rfl) : CallR X (.builtin "isinstance") (rIsU K) := by
  subst hK
  exact CallR.or call_isW call_isWT
end
end L2
namespace Evl
open PySem L2
section
variable {K : PySem.W.Frag} {H : Hp} {ta tb : TE} {σ : L2.St} {x y z : V}
theorem RV.l {r r' : R2} (h : RV r x y H z) : RV (fun x y H Q => r x y H Q ∨ r' x y H Q) x y H z := fun H1 e Q q => .inl (h H1 e Q q)
theorem RV.r {r r' : R2} (h : RV r' x y H z) : RV (fun x y H Q => r x y H Q ∨ r' x y H Q) x y H z := fun H1 e Q q => .inr (h H1 e Q q)
theorem RC.l {r r' : List V → Hp → VK → Prop} {vs : List V} (h : RC r vs H z) : RC (fun x H Q => r x H Q ∨ r' x H Q) vs H z := fun H1 e Q q => .inl (h H1 e Q q)
theorem RC.r {r r' : List V → Hp → VK → Prop} {vs : List V} (h : RC r' vs H z) : RC (fun x H Q => r x H Q ∨ r' x H Q) vs H z := fun H1 e Q q => .inr (h H1 e Q q)
theorem ev_add {i j : Int} (ha : Ev ta σ H (.int i)) (hb : Ev tb σ H (.int j)) : Ev (tOp (rAddU K) ta tb) σ H (.int (i + j)) := ev_op ha hb (RV.l (rv_I0 (g := fun i j => .int (i + j))))
theorem ev_sub {i j : Int} (ha : Ev ta σ H (.int i)) (hb : Ev tb σ H (.int j)) : Ev (tOp (rI0 fun i j => .int (i - j)) ta tb) σ H (.int (i - j)) := ev_op ha hb (rv_I0 (g := fun i j => .int (i - j)))
theorem ev_mul {i j : Int} (ha : Ev ta σ H (.int i)) (hb : Ev tb σ H (.int j)) (hc : CMul i j) : Ev (tOp rMulU ta tb) σ H (.int (i * j)) := ev_op ha hb (RV.l (rv_I (g := fun i j => .int (i * j)) hc))
theorem ev_fdiv {i j : Int} (ha : Ev ta σ H (.int i)) (hb : Ev tb σ H (.int j)) (hc : CDivN i j) : Ev (tOp (rI CDivN fun i j => .int (i.fdiv j)) ta tb) σ H (.int (i.fdiv j)) := ev_op ha hb (rv_I (g := fun i j => .int (i.fdiv j)) hc)
theorem ev_mod {i j : Int} (ha : Ev ta σ H (.int i)) (hb : Ev tb σ H (.int j)) (hc : j ≠ 0) : Ev (tOp (rI (fun _ j => j ≠ 0) fun i j => .int (i.fmod j)) ta tb) σ H (.int (i.fmod j)) := ev_op ha hb (rv_I (C := fun _ j => j ≠ 0) (g := fun i j => .int (i.fmod j)) hc)
theorem ev_pow {i j : Int} (ha : Ev ta σ H (.int i)) (hb : Ev tb σ H (.int j)) (hc : CPow i j) : Ev (tOp (rI CPow fun i j => .int (i ^ j.toNat)) ta tb) σ H (.int (i ^ j.toNat)) := ev_op ha hb (rv_I (g := fun i j => .int (i ^ j.toNat)) hc)
theorem ev_lt {i j : Int} (ha : Ev ta σ H (.int i)) (hb : Ev tb σ H (.int j)) : Ev (tOp (rI0 fun i j => .bl (decide (i < j))) ta tb) σ H (.bl (decide (i < j))) := ev_op ha hb (rv_I0 (g := fun i j => .bl (decide (i < j))))
theorem ev_ge {i j : Int} (ha : Ev ta σ H (.int i)) (hb : Ev tb σ H (.int j)) : Ev (tOp (rI0 fun i j => .bl (decide (j ≤ i))) ta tb) σ H (.bl (decide (j ≤ i))) := ev_op ha hb (rv_I0 (g := fun i j => .bl (decide (j ≤ i))))
theorem ev_gt {i j : Int} (ha : Ev ta σ H (.int i)) (hb : Ev tb σ H (.int j)) : Ev (tOp (rI0 fun i j => .bl (decide (j < i))) ta tb) σ H (.bl (decide (j < i))) := ev_op ha hb (rv_I0 (g := fun i j => .bl (decide (j < i))))
theorem ev_eq (ha : Ev ta σ H x) (hb : Ev tb σ H y) (h : scal x y = true) : Ev (tOp (rEqU K) ta tb) σ H (.bl (decide (x = y))) := ev_op ha hb (RV.l (rv_eq h))
theorem ev_int {i : Int} (ha : Ev ta σ H (.int i)) : Ev (tCB rIntU (tCons ta tNil)) σ H (.int i) := ev_cb (ea_cons ha ea_nil) fun H1 _ Q q => .inl ⟨i, rfl, q H1 (Ex.refl H1)⟩
/-- xs[i] of a list -/
theorem ev_ixL {p : Addr} {xs : List V} {i : Int} {v : V} (ha : Ev ta σ H (.ref p)) (hb : Ev tb σ H (.int i)) (h : SqL K H p xs) (hi : atI xs i = some v) : Ev (tOp (rIx K) ta tb) σ H v :=
  ev_op ha hb fun H1 e Q q => .inl (rv_ixL h hi H1 e Q q)
end
end Evl
namespace Evl
open PySem L2
section
variable {K : PySem.W.Frag} {H H1 H2 : Hp} {ta tb te : TE} {σ : L2.St} {x y z v w : V} {D : Ends} {tz tu : TS}
/-! ### the heap but one object -/
/-- all is kept but what stands at s -/
def Xs (s : Addr) (H H' : Hp) : Prop := ∀ a o, a ≠ s → H a = some o → H' a = some o
theorem Xs.refl {s : Addr} : Xs s H H := fun _ _ _ h => h
theorem Xs.trans {s : Addr} (a : Xs s H H1) (b : Xs s H1 H2) : Xs s H H2 := fun x o n h => b x o n (a x o n h)
theorem Ex.xs {s : Addr} (e : Ex H H1) : Xs s H H1 := fun a o _ h => e a o h
theorem Xs.at_ {s : Addr} {o : HO} : Xs s H (upd H s o) := fun a u n h => by
  rw [upd_ne n]
  exact h
theorem Xs.sqL {s c : Addr} {xs : List V} (e : Xs s H H1) (n : c ≠ s) (h : SqL K H c xs) : SqL K H1 c xs := by
  rcases h with (h | ⟨o, h⟩) | h
  · exact .inl (.inl (e c _ n h))
  · exact .inl (.inr ⟨o, e c _ n h⟩)
  · exact .inr h
theorem Xs.sqT {s c : Addr} {xs : List V} (e : Xs s H H1) (n : c ≠ s) (h : SqT K H c xs) : SqT K H1 c xs := by
  rcases h with (h | ⟨o, h⟩) | h
  · exact .inl (.inl (e c _ n h))
  · exact .inl (.inr ⟨o, e c _ n h⟩)
  · exact .inr h
theorem Xs.none {s p : Addr} (e : Xs s H H1) (n : p ≠ s) (h : H1 p = none) : H p = none := by
  cases h1 : H p with
  | none => rfl
  | some o =>
    rw [e p o n h1] at h
    cases h
/-! ### the state of the draws: [cells, nth, left, mixed] at s -/
structure St4 (K : PySem.W.Frag) (H : Hp) (s c : Addr) (ns : List Int) (n l : Int) (m : Bool) : Prop where
  ne : c ≠ s
  cs : SqL K H c (ns.map V.int)
  len : ns.length ≤ 63
  st : H s = some (.lst [.ref c, .int n, .int l, .bl m])
variable {s c : Addr} {ns : List Int} {n l : Int} {m : Bool}
theorem St4.ex (S : St4 K H s c ns n l m) (e : Ex H H1) : St4 K H1 s c ns n l m := ⟨S.ne, ex_l e S.cs, S.len, e _ _ S.st⟩
theorem St4.put {n' l' : Int} {m' : Bool} (S : St4 K H s c ns n l m) : St4 K (upd H s (.lst [.ref c, .int n', .int l', .bl m'])) s c ns n' l' m' :=
  ⟨S.ne, Xs.at_.sqL S.ne S.cs, S.len, upd_same⟩
theorem St4.g0 (S : St4 K H s c ns n l m) (h0 : σ[0]? = some (some (.ref s))) : Ev (tOp (rIx K) (tVar 0) (tC (.int 0))) σ H (.ref c) := ev_ixL (ev_var h0) ev_c (sq_of S.st) rfl
theorem St4.g1 (S : St4 K H s c ns n l m) (h0 : σ[0]? = some (some (.ref s))) : Ev (tOp (rIx K) (tVar 0) (tC (.int 1))) σ H (.int n) := ev_ixL (ev_var h0) ev_c (sq_of S.st) rfl
theorem St4.g2 (S : St4 K H s c ns n l m) (h0 : σ[0]? = some (some (.ref s))) : Ev (tOp (rIx K) (tVar 0) (tC (.int 2))) σ H (.int l) := ev_ixL (ev_var h0) ev_c (sq_of S.st) rfl
theorem St4.g3 (S : St4 K H s c ns n l m) (h0 : σ[0]? = some (some (.ref s))) : Ev (tOp (rIx K) (tVar 0) (tC (.int 3))) σ H (.bl m) := ev_ixL (ev_var h0) ev_c (sq_of S.st) rfl
theorem St4.p1 (S : St4 K H s c ns n l m) (h0 : σ[0]? = some (some (.ref s))) {k : Int} (h : Ev te σ H (.int k)) (q : ∀ H1, Xs s H H1 → St4 K H1 s c ns k l m → D.nx σ H1) :
    tAsg te (gSub (tVar 0) (tC (.int 1)) rSetL) D σ H := s_setL (j := 1) S.st h (ev_var h0) ev_c (by simp) fun H1 e => q _ ((Ex.xs e).trans Xs.at_) (S.ex e).put
theorem St4.p2 (S : St4 K H s c ns n l m) (h0 : σ[0]? = some (some (.ref s))) {k : Int} (h : Ev te σ H (.int k)) (q : ∀ H1, Xs s H H1 → St4 K H1 s c ns n k m → D.nx σ H1) :
    tAsg te (gSub (tVar 0) (tC (.int 2)) rSetL) D σ H := s_setL (j := 2) S.st h (ev_var h0) ev_c (by simp) fun H1 e => q _ ((Ex.xs e).trans Xs.at_) (S.ex e).put
theorem St4.p3 (S : St4 K H s c ns n l m) (h0 : σ[0]? = some (some (.ref s))) {k : Bool} (h : Ev te σ H (.bl k)) (q : ∀ H1, Xs s H H1 → St4 K H1 s c ns n l k → D.nx σ H1) :
    tAsg te (gSub (tVar 0) (tC (.int 3)) rSetL) D σ H := s_setL (j := 3) S.st h (ev_var h0) ev_c (by simp) fun H1 e => q _ ((Ex.xs e).trans Xs.at_) (S.ex e).put
/-! ### statements -/
theorem q_par {i j : Nat} {ta : TA} (h : EvA ta σ H [v, w]) (k : ∀ H1, Ex H H1 → tz D ((σ.set i (some v)).set j (some w)) H1) : tSeq (tPar i j ta) tz D σ H :=
  h H (Ex.refl H) _ fun H1 e => ⟨v, w, rfl, k H1 e⟩
theorem q_st {t : TS} (h : t { D with nx := tz D } σ H) : tSeq t tz D σ H := h
theorem walk_enumT {a : Addr} {xs : List V} : Walk (ItEt K a) xs.length (fun H => SqT K H a xs) (fun i H v H' => ∃ T x, v = .ref T ∧ H T = none ∧ H' = upd H T (.tup [.int (i : Nat), x]) ∧ xs[i]? = some x) where
  goes := fun i H hi h => ⟨xs, h, hi⟩
  stops := fun H h => ⟨xs, h, rfl⟩
  yields := fun i H x H' hi h ⟨T, y, e1, e2, e3, e4⟩ => ⟨T, y, e1, e2, e3, e4 xs h⟩
theorem g_pair {i j : Nat} {T : Addr} {Q : L2.St → Hp → Prop} (h : H T = some (.tup [v, w])) (q : Q ((σ.set i (some v)).set j (some w)) H) : gTup K 2 (gCons (gName i) (gCons (gName j) gNil)) (.ref T) σ H Q :=
  ⟨T, [v, w], rfl, st_of h, rfl, v, [w], rfl, w, [], rfl, rfl, q⟩
/-- for i, j in enumerate((x, ..)), the tuple new -/
theorem s_forET {ta : TA} {i j : Nat} {xs : List V} (h : EvA ta σ H xs) (hx : xs.length ≤ 100000) (Pv : Addr → Nat → L2.St → Hp → Prop) (h0 : ∀ p H1, H p = none → Ex H H1 → H1 p = some (.tup xs) → Pv p 0 σ H1) (hP : ∀ p k σ' H', k ≤ xs.length → Pv p k σ' H' → SqT K H' p xs)
    (hs : ∀ p (k : Nat) x σ' H', xs[k]? = some x → Pv p k σ' H' → ∀ H2, Ex H' H2 → tu { D with nx := Pv p (k + 1), ct := Pv p (k + 1), bk := D.nx } ((σ'.set i (some (.int (k : Int)))).set j (some x)) H2) (hd : ∀ p σ' H', Pv p xs.length σ' H' → D.nx σ' H') :
    tFor (iEnumT K (tCons (tTup ta) tNil)) (gTup K 2 (gCons (gName i) (gCons (gName j) gNil))) tu D σ H := by
  unfold tFor iEnumT tCons
  exact (eu_tup h hx) H (Ex.refl H) _ fun p H1 hp e h1 => ⟨p, xs, rfl, st_of h1, for_it walk_enumT (Pv p) (h0 p H1 hp e h1) (fun k σ' H' hk pv => hP p k σ' H' hk pv) (fun k x σ' H' H2 hk pv ⟨T, y, e1, e2, e3, e4⟩ => by
    subst e1 e3
    exact g_pair upd_same (hs p k y σ' H' e4 pv _ (Ex.new e2))) (hd p)⟩
end
end Evl
namespace Evl
open PySem L2
section
variable {K : PySem.W.Frag} {H H1 H2 : Hp} {ta tb te : TE} {σ : L2.St} {x y z v w : V} {D : Ends} {tz tu : TS}
/-! ### types of values, and isinstance -/
inductive Kn (K : PySem.W.Frag) (H : Hp) : V → String → Prop where
  | non : Kn K H .non "NoneType"
  | bl (b : Bool) : Kn K H (.bl b) "bool"
  | int (i : Int) : Kn K H (.int i) "int"
  | str (x : Str) : Kn K H (.str x) "str"
  | lst {a : Addr} {xs : List V} (h : SqL K H a xs) : Kn K H (.ref a) "list"
  | tup {a : Addr} {xs : List V} (h : SqT K H a xs) : Kn K H (.ref a) "tuple"
  | dK {a : Addr} {kvs : List (Key × V)} (h : H a = some (.dK kvs)) : Kn K H (.ref a) "dict"
theorem Kn.ex {t : String} (k : Kn K H x t) (e : Ex H H1) : Kn K H1 x t := by
  cases k with
  | non => exact .non
  | bl b => exact .bl b
  | int i => exact .int i
  | str x => exact .str x
  | lst h => exact .lst (ex_l e h)
  | tup h => exact .tup (ex_t e h)
  | dK h => exact .dK (e _ _ h)
theorem Kn.ty {t : String} (k : Kn K H x t) : TyX K H x (.type t) := by
  cases k with
  | non => exact .base .non
  | bl b => exact .base (.bl b)
  | int i => exact .base (.int i)
  | str x => exact .base (.str x)
  | lst h =>
    rcases h with (h | ⟨o, h⟩) | ⟨o, its, n, hk, hc, _⟩
    · exact .base (.lst h)
    · exact .base (.frz h)
    · exact .kList hk hc
  | tup h =>
    rcases h with (h | ⟨o, h⟩) | ⟨o, its, n, hk, hc, _⟩
    · exact .base (.tup h)
    · exact .fTuple h
    · exact .kTuple hk hc
  | dK h => exact .base (.dK h)
def kitBs (t : String) : List String → Option Bool
  | [] => some false
  | c :: r => match kitB t c with
    | some true => some true
    | some false => kitBs t r
    | none => none
theorem kitBs_ok {t : String} : ∀ {ns : List String} {b : Bool}, kitBs t ns = some b → PySem.W.kitAny K (.type t) (ns.map Value.type) = some b
  | [], b, h => h
  | c :: r, b, h => by
    have e : PySem.W.kitOne K (.type t) (.type c) = kitB t c := rfl
    show (match PySem.W.kitOne K (.type t) (.type c) with | some true => some true | some false => PySem.W.kitAny K (.type t) (r.map Value.type) | none => none) = some b
    rw [e]
    unfold kitBs at h
    split at h
    · exact h
    · exact kitBs_ok h
    · cases h
theorem clsv_tys : ∀ ns : List String, Paired ClsV (ns.map V.ty) (ns.map Value.type)
  | [] => .nil
  | n :: r => .cons (.ty n) (clsv_tys r)
end
end Evl
/-! Dicts whose keys are tuples of ints, texts and tuples of these: the keys, the object. -/
namespace Nk
open PySem PySem.Spec PyProof.Rows L2
/-- an item of a key: an int or a text, or a tuple of such -/
abbrev KI := Sum Key (List Key)
/-- a key -/
abbrev K2 := List KI
/-- a dict of such keys, as it stands: each key with the place of its tuple -/
def DN (hs : K2 → Int) (a : Addr) (xs : List (K2 × Addr × V)) : HO := .ext fun h => (a == sysModules) = false ∧ xs.length ≤ sizeLine ∧ (xs.map (·.1)).Nodup ∧
  ∃ (o : Obj) (es : Array DictEntry), h.get? a = some o ∧ o.ExactDict ∧ o.data = .dict es xs.length ∧ Paired (fun (p : K2 × Addr × V) (e : DictEntry) => e.hash = hs p.1 ∧ e.key = .ref p.2.1 ∧ RelV p.2.2 e.val) xs es.toList
theorem heap_of : ∀ n : Nat, ∃ h : Heap, h.objs.size = n
  | 0 => ⟨{}, rfl⟩
  | n + 1 => by
    obtain ⟨h, e⟩ := heap_of n
    exact ⟨h.push { cls := .none, data := .fields #[] }, by rw [Heap.size_push, e]⟩
theorem dn_ne {hs : K2 → Int} {a : Addr} {xs : List (K2 × Addr × V)} {q : Str} : DN hs a xs ≠ LamX.CodeO a q := fun e => by
  have e := HO.ext.inj e
  obtain ⟨h, hz⟩ := heap_of a
  have hg : (h.push { cls := .none, data := .fields #[.none, .str q 0] }).get? a = some { cls := .none, data := .fields #[.none, .str q 0] } := by
    rw [← hz]
    exact Heap.get?_push_size _ rfl
  have hc : (fun h : Heap => ∃ (oc : Obj) (vs : Array Value) (t : Tok), h.get? a = some oc ∧ oc.data = .fields vs ∧ vs[1]? = some (.str q t)) (h.push { cls := .none, data := .fields #[.none, .str q 0] }) := ⟨_, _, 0, hg, rfl, rfl⟩
  rw [← e] at hc
  obtain ⟨_, _, _, o, es, h1, _, h2, _⟩ := hc
  rw [hg] at h1
  cases h1
  cases h2
end Nk
/-! Dicts whose keys are None and texts: the keys, the object. -/
namespace Nko
open PySem PySem.Spec PyProof.Rows L2
/-- a key: None or a text -/
abbrev KO := Option Str
def koIs : KO → Value → Bool
  | none, .none => true
  | some x, v => Value.isStrOf x v
  | none, _ => false
/-- a dict of such keys, as it stands -/
def DO (b : Bool) (hs : KO → Int) (a : Addr) (xs : List (KO × V)) : HO := .ext fun h => (a == sysModules) = false ∧ xs.length ≤ sizeLine ∧ (xs.map (·.1)).Nodup ∧
  ∃ (o : Obj) (es : Array DictEntry) (ep : Nat), h.get? a = some o ∧ o.ExactDict ∧ o.data = .dict es ep ∧ (b = true → ep = xs.length) ∧ Paired (fun (p : KO × V) (e : DictEntry) => e.hash = hs p.1 ∧ koIs p.1 e.key = true ∧ RelV p.2 e.val) xs es.toList
theorem do_ne {b : Bool} {hs : KO → Int} {a : Addr} {xs : List (KO × V)} {q : Str} : DO b hs a xs ≠ LamX.CodeO a q := fun e => by
  have e := HO.ext.inj e
  obtain ⟨h, hz⟩ := Nk.heap_of a
  have hg : (h.push { cls := .none, data := .fields #[.none, .str q 0] }).get? a = some { cls := .none, data := .fields #[.none, .str q 0] } := by
    rw [← hz]
    exact Heap.get?_push_size _ rfl
  have hc : (fun h : Heap => ∃ (oc : Obj) (vs : Array Value) (t : Tok), h.get? a = some oc ∧ oc.data = .fields vs ∧ vs[1]? = some (.str q t)) (h.push { cls := .none, data := .fields #[.none, .str q 0] }) := ⟨_, _, _, hg, rfl, rfl⟩
  rw [← e] at hc
  obtain ⟨_, _, _, o, es, ep, h1, _, h2, _⟩ := hc
  rw [hg] at h1
  cases h1
  cases h2
end Nko
/-! Data trees over the heap, and what a reading does to slots that hold trees: heaps and places are not spoken of above this layer. -/
namespace Wv
open PySem L2 Evl
/-- all is kept but at O; a dict that A does not hold may be locked behind it -/
def Ko (O A : Addr → Prop) (H H' : Hp) : Prop := (∀ a o, ¬ O a → H a = some o → H' a = some o ∨ ¬ A a ∧ ∃ kvs od, o = .dK kvs ∧ H' a = some (.frz od (.dK kvs))) ∧ ∀ a, H a ≠ none → H' a ≠ none
/-- an object that may be changed: no table, nothing told by its words alone -/
def Pl (H : Hp) (p : Addr) : Prop := ∃ o, H p = some o ∧ (∀ q, o ≠ .tbl q) ∧ ∀ q, o ≠ LamX.CodeO p q
/-- an object of a def's own with all that is changed through it: the places that may change, and what is known of them -/
structure Reg where
  ad : Addr
  rg : Addr → Prop
  I : Option Addr → (Addr → Prop) → Hp → Addr → Prop
  keep : ∀ so (O A : Addr → Prop) (H H' : Hp) a, I so O H a → Ko O A H H' → (∀ b, b = a ∨ rg b → H' b = H b) → I so O H' a
  mono : ∀ so (O O' : Addr → Prop) (H : Hp) a, I so O H a → (∀ b, O' b → O b) → I so O' H a
  avoid : ∀ so (O O' : Addr → Prop) (H : Hp) a, I so O H a → (∀ b, O' b → O b ∨ H b = none) → I so O' H a
  pl : ∀ so (O : Addr → Prop) (H : Hp) a, I so O H a → ∀ b, b = a ∨ rg b → Pl H b
  pin : ∀ so (O : Addr → Prop) (H : Hp) a, I so O H a → a = ad
/-- data: what a value is, in full depth; st: the state of the draws -/
inductive Dt where
  | non | bl (b : Bool) | int (i : Int) | str (x : Str) | lst (xs : List Dt) | tup (xs : List Dt) | dct (kvs : List (Key × Dt)) | ins (C : Addr) (fs : List (Str × Dt)) | st | dtn (hs : Nk.K2 → Int) (kvs : List (Nk.K2 × Dt)) | dto (b : Bool) (hs : Nko.KO → Int) (kvs : List (Nko.KO × Dt)) | ob (r : Reg) (t : Dt) | ad (b : Addr) | opq
abbrev Zz : Nat := 100000
/-- a key's tree -/
def kyD : Key → Dt
  | .inl i => .int i
  | .inr x => .str x
def kiD : Nk.KI → Dt
  | .inl k => kyD k
  | .inr l => .tup (l.map kyD)
def k2D (k : Nk.K2) : Dt := .tup (k.map kiD)
/-- the value x at H is the tree d; no object of it stands at an address of O -/
inductive Rv (so : Option Addr) (O : Addr → Prop) (H : Hp) : V → Dt → Prop where
  | non : Rv so O H .non .non
  | bl (b : Bool) : Rv so O H (.bl b) (.bl b)
  | int (i : Int) : Rv so O H (.int i) (.int i)
  | str {x : Str} (h : x.length ≤ Zz) : Rv so O H (.str x) (.str x)
  | lst {a : Addr} {xs : List V} {ds : List Dt} (ho : ¬ O a) (h : H a = some (.lst xs)) (hl : xs.length = ds.length) (hz : ds.length ≤ Zz) (he : ∀ (i : Nat) x d, xs[i]? = some x → ds[i]? = some d → Rv so O H x d) : Rv so O H (.ref a) (.lst ds)
  | tup {a : Addr} {xs : List V} {ds : List Dt} (ho : ¬ O a) (h : H a = some (.tup xs)) (hl : xs.length = ds.length) (hz : ds.length ≤ Zz) (he : ∀ (i : Nat) x d, xs[i]? = some x → ds[i]? = some d → Rv so O H x d) : Rv so O H (.ref a) (.tup ds)
  | dct {a : Addr} {kvs : List (Key × V)} {ds : List (Key × Dt)} (ho : ¬ O a) (h : Rd H a (.dK kvs)) (hk : kvs.map (·.1) = ds.map (·.1)) (hz : ds.length ≤ Zz) (he : ∀ (i : Nat) k x k' d, kvs[i]? = some (k, x) → ds[i]? = some (k', d) → Rv so O H x d) : Rv so O H (.ref a) (.dct ds)
  | ins {a dx C : Addr} {fs : List (Str × V)} {ds : List (Str × Dt)} (ho : ¬ O a) (h : H a = some (.ins C dx fs)) (hk : fs.map (·.1) = ds.map (·.1)) (he : ∀ (i : Nat) k x k' d, fs[i]? = some (k, x) → ds[i]? = some (k', d) → Rv so O H x d) : Rv so O H (.ref a) (.ins C ds)
  | st {a : Addr} (h : so = some a) : Rv so O H (.ref a) .st
  | dtn {a : Addr} {hs : Nk.K2 → Int} {xs : List (Nk.K2 × Addr × V)} {ds : List (Nk.K2 × Dt)} (ho : ¬ O a) (h : H a = some (Nk.DN hs a xs)) (hk : xs.map (·.1) = ds.map (·.1)) (hz : ds.length ≤ Zz)
    (hb : ∀ (i : Nat) k b x, xs[i]? = some (k, b, x) → Rv so O H (.ref b) (k2D k)) (he : ∀ (i : Nat) k b x k' d, xs[i]? = some (k, b, x) → ds[i]? = some (k', d) → Rv so O H x d) : Rv so O H (.ref a) (.dtn hs ds)
  | dto {a : Addr} {b : Bool} {hs : Nko.KO → Int} {xs : List (Nko.KO × V)} {ds : List (Nko.KO × Dt)} (ho : ¬ O a) (h : H a = some (Nko.DO b hs a xs)) (hk : xs.map (·.1) = ds.map (·.1)) (hz : ds.length ≤ Zz) (he : ∀ (i : Nat) k x k' d, xs[i]? = some (k, x) → ds[i]? = some (k', d) → Rv so O H x d) : Rv so O H (.ref a) (.dto b hs ds)
  | ob {x : V} {r : Reg} {t : Dt} (h : Rv so O H x t) : Rv so O H x (.ob r t)
  | ad {b : Addr} : Rv so O H (.ref b) (.ad b)
  | opq {x : V} : Rv so O H x .opq
section
variable {so : Option Addr} {O O' A A' : Addr → Prop} {H H1 H2 H' : Hp} {x y v : V} {d e : Dt} {p a : Addr} {o : HO}
theorem Ko.refl : Ko O A H H := ⟨fun _ _ _ h => .inl h, fun _ h => h⟩
theorem Ko.trans (a : Ko O A H H1) (b : Ko O A H1 H2) : Ko O A H H2 := by
  refine ⟨fun x o n h => ?_, fun x h => b.2 x (a.2 x h)⟩
  rcases a.1 x o n h with h2 | ⟨z, kvs, od, rfl, h2⟩
  · exact b.1 x o n h2
  · rcases b.1 x _ n h2 with h3 | ⟨_, kvs', od', q, _⟩
    · exact .inr ⟨z, kvs, od, rfl, h3⟩
    · cases q
theorem Ko.mono (k : Ko O A H H') (h : ∀ a, O a → O' a) (hA : ∀ a, A' a → A a) : Ko O' A' H H' := ⟨fun a o n e => (k.1 a o (fun z => n (h a z)) e).imp id fun z => ⟨fun q => z.1 (hA a q), z.2⟩, k.2⟩
theorem ex_some (e : Ex H H') {a : Addr} (h : H a ≠ none) : H' a ≠ none := by
  cases q : H a with
  | none => exact absurd q h
  | some o => rw [e a o q]; exact fun z => nomatch z
theorem Ko.ex (e : Ex H H') : Ko O A H H' := ⟨fun a o _ h => .inl (e a o h), fun a h => ex_some e h⟩
theorem Ko.back (k : Ko O A H H') {a : Addr} (h : H' a = none) : H a = none := by
  cases q : H a with
  | none => rfl
  | some o => exact absurd h (k.2 a (by rw [q]; exact fun z => nomatch z))
theorem Ko.new (h : H p = none) : Ko O A H (upd H p o) := Ko.ex (Ex.new h)
theorem upd_some {a : Addr} (h : H a ≠ none) : upd H p o a ≠ none := by
  by_cases e : a = p
  · rw [e, upd_same]; exact fun z => nomatch z
  · rw [upd_ne e]; exact h
theorem Ko.mut (h : O p) : Ko O A H (upd H p o) := ⟨fun a u n e => by
  rw [upd_ne fun z => n (by rw [z]; exact h)]
  exact .inl e, fun a h => upd_some h⟩
/-- what A holds is kept as it is -/
theorem Ko.same (k : Ko O A H H') (h1 : ¬ O a) (h2 : A a) (h : H a ≠ none) : H' a = H a := by
  cases q : H a with
  | none => exact absurd q h
  | some u =>
    rcases k.1 a u h1 q with z | ⟨z, _⟩
    · exact z
    · exact absurd h2 z
theorem Rd.keep (k : Ko O A H H') (ho : ¬ O a) (h : Rd H a o) : Rd H' a o := by
  rcases h with h | ⟨u, h⟩
  · rcases k.1 a _ ho h with z | ⟨_, kvs, od, rfl, z⟩
    · exact .inl z
    · exact .inr ⟨od, z⟩
  · rcases k.1 a _ ho h with z | ⟨_, kvs, od, q, z⟩
    · exact .inr ⟨u, z⟩
    · cases q
theorem Ko.keep1 (k : Ko O A H H') (ho : ¬ O a) (h : H a = some o) (n : ∀ kvs, o ≠ .dK kvs) : H' a = some o := by
  rcases k.1 a o ho h with z | ⟨_, kvs, od, q, z⟩
  · exact z
  · exact absurd q (n kvs)
theorem Rv.keep (r : Rv so O H x d) (k : Ko O A H H') : Rv so O H' x d := by
  induction r with
  | non => exact .non
  | bl b => exact .bl b
  | int i => exact .int i
  | str h => exact .str h
  | lst ho h hl hz he ih => exact .lst ho (k.keep1 ho h fun _ z => nomatch z) hl hz ih
  | tup ho h hl hz he ih => exact .tup ho (k.keep1 ho h fun _ z => nomatch z) hl hz ih
  | dct ho h hk hz he ih => exact .dct ho (Rd.keep k ho h) hk hz ih
  | @ins _ dx C fs ds ho h hk he ih =>
    refine .ins (dx := dx) ho ?_ hk ih
    rcases k.1 _ _ ho h with z | ⟨_, kvs, od, q, z⟩
    · exact z
    · cases q
  | st h => exact .st h
  | dtn ho h hk hz hb he ihb ih => exact .dtn ho (k.keep1 ho h fun _ z => nomatch z) hk hz ihb ih
  | dto ho h hk hz he ih => exact .dto ho (k.keep1 ho h fun _ z => nomatch z) hk hz ih
  | ob h ih => exact .ob ih
  | ad => exact .ad
  | opq => exact .opq
theorem Rv.ex (r : Rv so O H x d) (e : Ex H H') : Rv so O H' x d := r.keep (Ko.ex (A := O) e)
theorem Rv.mono (r : Rv so O H x d) (h : ∀ a, O' a → O a) : Rv so O' H x d := by
  induction r with
  | non => exact .non
  | bl b => exact .bl b
  | int i => exact .int i
  | str h => exact .str h
  | lst ho h1 hl hz he ih => exact .lst (fun z => ho (h _ z)) h1 hl hz ih
  | tup ho h1 hl hz he ih => exact .tup (fun z => ho (h _ z)) h1 hl hz ih
  | dct ho h1 hk hz he ih => exact .dct (fun z => ho (h _ z)) h1 hk hz ih
  | ins ho h1 hk he ih => exact .ins (fun z => ho (h _ z)) h1 hk ih
  | st h => exact .st h
  | dtn ho h1 hk hz hb he ihb ih => exact .dtn (fun z => ho (h _ z)) h1 hk hz ihb ih
  | dto ho h1 hk hz he ih => exact .dto (fun z => ho (h _ z)) h1 hk hz ih
  | ob h0 ih => exact .ob ih
  | ad => exact .ad
  | opq => exact .opq
theorem Rd.some (h : Rd H a o) : H a ≠ none := by
  rcases h with h | ⟨u, h⟩ <;> rw [h] <;> exact fun z => nomatch z
/-- what stands nowhere at H is in no tree -/
theorem Rv.avoid (r : Rv so O H x d) (h : ∀ a, O' a → O a ∨ H a = none) : Rv so O' H x d := by
  have nn : ∀ {a : Addr} {o : HO}, ¬ O a → Rd H a o → ¬ O' a := fun {a o} ho hr z => (h a z).elim ho (Rd.some hr)
  induction r with
  | non => exact .non
  | bl b => exact .bl b
  | int i => exact .int i
  | str h => exact .str h
  | lst ho h1 hl hz he ih => exact .lst (nn ho (.inl h1)) h1 hl hz ih
  | tup ho h1 hl hz he ih => exact .tup (nn ho (.inl h1)) h1 hl hz ih
  | dct ho h1 hk hz he ih => exact .dct (nn ho h1) h1 hk hz ih
  | ins ho h1 hk he ih => exact .ins (nn ho (.inl h1)) h1 hk ih
  | st h => exact .st h
  | dtn ho h1 hk hz hb he ihb ih => exact .dtn (nn ho (.inl h1)) h1 hk hz ihb ih
  | dto ho h1 hk hz he ih => exact .dto (nn ho (.inl h1)) h1 hk hz ih
  | ob h0 ih => exact .ob ih
  | ad => exact .ad
  | opq => exact .opq
def scl : Dt → Bool
  | .lst _ => false | .tup _ => false | .dct _ => false | .ins _ _ => false | .dtn _ _ => false | .dto _ _ _ => false | .ob _ _ => false | .opq => true | _ => true
theorem Rv.scal (r : Rv so O H x d) (hs : scl d = true) : Rv so O' H' x d := by
  cases r with
  | non => exact .non
  | bl b => exact .bl b
  | int i => exact .int i
  | str h => exact .str h
  | st h => exact .st h
  | ad => exact .ad
  | opq => exact .opq
  | _ => cases hs
end
/-- the state of the draws stands, its cells at cc -/
structure Ct where
  cc : Addr
  T : List (Addr × Str)
/-- what may change in any def: the state of the draws, the tables of code objects -/
def Chg (so : Option Addr) (cc : Ct) (a : Addr) : Prop := so = some a ∨ ∃ q, (a, q) ∈ cc.T
def St0 (K : PySem.W.Frag) (so : Option Addr) (cc : Addr) (H : Hp) : Prop := match so with
  | none => True
  | some s => ∃ ns n l m, St4 K H s cc ns n l m
def Stt (K : PySem.W.Frag) (so : Option Addr) (cc : Ct) (H : Hp) : Prop := St0 K so cc.cc H ∧ LamX.Tabs cc.T H
/-- a slot: nothing known; a tree; a list or dict of the def's own that may change -/
inductive Sl where
  | no | v (d : Dt) | own (d : Dt) | fz (r : Reg)
/-- the surroundings of a body: the heap at its entry, the state of the draws and its cells, the addresses that its trees avoid -/
structure Cc where
  B : Hp
  so : Option Addr
  cc : Ct
  O : Addr → Prop
  lk : Bool
  lb : Bool
/-- one address more to avoid -/
def Cc.add (c : Cc) (p : Addr) : Cc := { c with O := fun a => c.O a ∨ a = p }
/-- the places that change with it -/
def Dt.rg : Dt → Addr → Prop
  | .ob r _ => r.rg
  | _ => fun _ => False
/-- the place of the own object in a slot, and those that change with it -/
def Oa (σ : L2.St) (i : Nat) (d : Dt) (a : Addr) : Prop := σ[i]? = some (some (V.ref a)) ∨ d.rg a
def Ow (σ : L2.St) (env : List Sl) (a : Addr) : Prop := ∃ (i : Nat) (d : Dt), env[i]? = some (Sl.own d) ∧ Oa σ i d a
/-- what trees avoid -/
def Av (c : Cc) (σ : L2.St) (env : List Sl) (a : Addr) : Prop := c.O a ∨ Ow σ env a
/-- what must not be locked -/
def An (c : Cc) (σ : L2.St) (env : List Sl) (a : Addr) : Prop := c.lk = false ∨ Av c σ env a
/-- what may change: the state of the draws, own lists and dicts -/
def Mv (c : Cc) (σ : L2.St) (env : List Sl) (a : Addr) : Prop := Chg c.so c.cc a ∨ Ow σ env a
abbrev SO (c : Cc) : Prop := ∀ a, Chg c.so c.cc a → c.O a ∧ ∀ s, c.so = some s → c.O c.cc.cc
/-- an own list or dict: its top stands at a, its items are trees -/
def Ol (so : Option Addr) (O : Addr → Prop) (H : Hp) (a : Addr) : Dt → Prop
  | .lst ds => ∃ xs, H a = some (.lst xs) ∧ xs.length = ds.length ∧ ds.length ≤ Zz ∧ ∀ (i : Nat) x d, xs[i]? = some x → ds[i]? = some d → Rv so O H x d
  | .tup ds => ∃ xs, H a = some (.tup xs) ∧ xs.length = ds.length ∧ ds.length ≤ Zz ∧ ∀ (i : Nat) x d, xs[i]? = some x → ds[i]? = some d → Rv so O H x d
  | .dct ds => ∃ kvs, H a = some (.dK kvs) ∧ kvs.map (·.1) = ds.map (·.1) ∧ ds.length ≤ Zz ∧ ∀ (i : Nat) k x k' d, kvs[i]? = some (k, x) → ds[i]? = some (k', d) → Rv so O H x d
  | .dtn hs ds => ∃ xs, H a = some (Nk.DN hs a xs) ∧ xs.map (·.1) = ds.map (·.1) ∧ ds.length ≤ Zz ∧ (∀ (i : Nat) k b x, xs[i]? = some (k, b, x) → Rv so O H (.ref b) (k2D k)) ∧ ∀ (i : Nat) k b x k' d, xs[i]? = some (k, b, x) → ds[i]? = some (k', d) → Rv so O H x d
  | .dto b hs ds => ∃ xs, H a = some (Nko.DO b hs a xs) ∧ xs.map (·.1) = ds.map (·.1) ∧ ds.length ≤ Zz ∧ ∀ (i : Nat) k x k' d, xs[i]? = some (k, x) → ds[i]? = some (k', d) → Rv so O H x d
  | _ => False
/-- an own object: a list, a dict, or one with places of its own -/
def Oo (so : Option Addr) (O : Addr → Prop) (H : Hp) (a : Addr) : Dt → Prop
  | .ob r t => r.I so O H a ∧ Rv so (fun x => O x ∧ ¬ (x = a ∨ r.rg x)) H (.ref a) t
  | d => Ol so O H a d
structure Hb (K : PySem.W.Frag) (c : Cc) (H : Hp) : Prop where
  base : Ko (fun a => Chg c.so c.cc a) (fun a => c.lb = false ∨ c.O a) c.B H
  lkb : c.lk = true → c.lb = true
  sO : SO c
  dom : ∀ a, c.O a → H a ≠ none
  stt : Stt K c.so c.cc H
/-- an object that is but looked at: as it was at the entry -/
structure Fz (c : Cc) (r : Reg) : Prop where
  inv : r.I c.so c.O c.B r.ad
  pl : ∀ b, b = r.ad ∨ r.rg b → c.O b ∧ ¬ Chg c.so c.cc b
structure Sv (K : PySem.W.Frag) (c : Cc) (H : Hp) (σ : L2.St) (env : List Sl) : Prop extends Hb K c H where
  len : σ.length = env.length
  uniq : ∀ (i j : Nat) (d e : Dt) (a : Addr), env[i]? = some (Sl.own d) → env[j]? = some (Sl.own e) → Oa σ i d a → Oa σ j e a → i = j
  reg : ∀ (i : Nat) (d : Dt) (b : Addr), env[i]? = some (Sl.own d) → d.rg b → c.B b = none ∧ ¬ c.O b
  fzs : ∀ (i : Nat) (r : Reg), env[i]? = some (Sl.fz r) → σ[i]? = some (some (V.ref r.ad)) ∧ Fz c r
  tree : ∀ (i : Nat) (d : Dt), env[i]? = some (Sl.v d) → ∃ x, σ[i]? = some (some x) ∧ Rv c.so (Av c σ env) H x d
  own : ∀ (i : Nat) (d : Dt), env[i]? = some (Sl.own d) → ∃ a, σ[i]? = some (some (V.ref a)) ∧ c.B a = none ∧ ¬ c.O a ∧ Oo c.so (Av c σ env) H a d
/-- fewer own slots -/
def Le (env' env : List Sl) : Prop := ∀ (i : Nat) d, env'[i]? = some (Sl.own d) → ∃ e, env[i]? = some (Sl.own e) ∧ ∀ a, d.rg a → e.rg a
theorem Le.refl {env : List Sl} : Le env env := fun _ d h => ⟨d, h, fun _ z => z⟩
theorem Le.trans {e1 e2 e3 : List Sl} (a : Le e2 e1) (b : Le e3 e2) : Le e3 e1 := fun i d h => by
  obtain ⟨_, h, k⟩ := b i d h
  obtain ⟨_, h', k'⟩ := a i _ h
  exact ⟨_, h', fun a z => k' a (k a z)⟩
theorem Ow.le {σ : L2.St} {env' env : List Sl} (h : Le env' env) (a : Addr) (z : Ow σ env' a) : Ow σ env a := by
  obtain ⟨i, d, h1, h2⟩ := z
  obtain ⟨e, h3, h4⟩ := h i d h1
  exact ⟨i, e, h3, h2.imp id (h4 a)⟩
theorem Av.le {c : Cc} {σ : L2.St} {env' env : List Sl} (h : Le env' env) (a : Addr) (z : Av c σ env' a) : Av c σ env a := z.imp id (Ow.le h a)
theorem An.le {c : Cc} {σ : L2.St} {env' env : List Sl} (h : Le env' env) (a : Addr) (z : An c σ env' a) : An c σ env a := z.imp id (Av.le h a)
theorem Mv.le {c : Cc} {σ : L2.St} {env' env : List Sl} (h : Le env' env) (a : Addr) (z : Mv c σ env' a) : Mv c σ env a := z.imp id (Ow.le h a)
theorem Mv.av {c : Cc} {σ : L2.St} {env : List Sl} (hs : SO c) (a : Addr) (z : Mv c σ env a) : Av c σ env a := z.imp (fun z => (hs a z).1) id
section
variable {K : PySem.W.Frag} {c : Cc} {H H1 H2 H' : Hp} {σ : L2.St} {env env' : List Sl} {so : Option Addr} {O : Addr → Prop} {a : Addr} {d : Dt} {x : V}
theorem pl_some {b : Addr} (h : Pl H b) : H b ≠ none := by
  obtain ⟨o, e, _⟩ := h
  rw [e]; exact fun z => nomatch z
theorem Ko.minus {A R : Addr → Prop} (k : Ko O A H H') (h : ∀ b, R b → H' b = H b) : Ko (fun x => O x ∧ ¬ R x) A H H' := ⟨fun x o n e => by
  by_cases z : R x
  · exact .inl (by rw [h x z]; exact e)
  · exact k.1 x o (fun q => n ⟨q, z⟩) e, k.2⟩
theorem Ol.keep {A : Addr → Prop} (h : Ol so O H a d) (k : Ko O A H H') (ha : H' a = H a) : Ol so O H' a d := by
  cases d with
  | lst ds =>
    obtain ⟨xs, h1, h2, h3, h4⟩ := h
    exact ⟨xs, by rw [ha]; exact h1, h2, h3, fun i x d e1 e2 => (h4 i x d e1 e2).keep k⟩
  | tup ds =>
    obtain ⟨xs, h1, h2, h3, h4⟩ := h
    exact ⟨xs, by rw [ha]; exact h1, h2, h3, fun i x d e1 e2 => (h4 i x d e1 e2).keep k⟩
  | dct ds =>
    obtain ⟨xs, h1, h2, h3, h4⟩ := h
    exact ⟨xs, by rw [ha]; exact h1, h2, h3, fun i k' x k'' d e1 e2 => (h4 i k' x k'' d e1 e2).keep k⟩
  | dtn hs ds =>
    obtain ⟨xs, h1, h2, h3, h5, h4⟩ := h
    exact ⟨xs, by rw [ha]; exact h1, h2, h3, fun i k' b x e1 => (h5 i k' b x e1).keep k, fun i k' b x k'' d e1 e2 => (h4 i k' b x k'' d e1 e2).keep k⟩
  | dto b hs ds =>
    obtain ⟨xs, h1, h2, h3, h4⟩ := h
    exact ⟨xs, by rw [ha]; exact h1, h2, h3, fun i k' x k'' d e1 e2 => (h4 i k' x k'' d e1 e2).keep k⟩
  | _ => exact h.elim
theorem Ol.mono {O' : Addr → Prop} (h : Ol so O H a d) (hO : ∀ a, O' a → O a) : Ol so O' H a d := by
  cases d with
  | lst ds =>
    obtain ⟨xs, h1, h2, h3, h4⟩ := h
    exact ⟨xs, h1, h2, h3, fun i x d e1 e2 => (h4 i x d e1 e2).mono hO⟩
  | tup ds =>
    obtain ⟨xs, h1, h2, h3, h4⟩ := h
    exact ⟨xs, h1, h2, h3, fun i x d e1 e2 => (h4 i x d e1 e2).mono hO⟩
  | dct ds =>
    obtain ⟨xs, h1, h2, h3, h4⟩ := h
    exact ⟨xs, h1, h2, h3, fun i k' x k'' d e1 e2 => (h4 i k' x k'' d e1 e2).mono hO⟩
  | dtn hs ds =>
    obtain ⟨xs, h1, h2, h3, h5, h4⟩ := h
    exact ⟨xs, h1, h2, h3, fun i k' b x e1 => (h5 i k' b x e1).mono hO, fun i k' b x k'' d e1 e2 => (h4 i k' b x k'' d e1 e2).mono hO⟩
  | dto b hs ds =>
    obtain ⟨xs, h1, h2, h3, h4⟩ := h
    exact ⟨xs, h1, h2, h3, fun i k' x k'' d e1 e2 => (h4 i k' x k'' d e1 e2).mono hO⟩
  | _ => exact h.elim
theorem Ol.avoid {O' : Addr → Prop} (h : Ol so O H a d) (hO : ∀ a, O' a → O a ∨ H a = none) : Ol so O' H a d := by
  cases d with
  | lst ds =>
    obtain ⟨xs, h1, h2, h3, h4⟩ := h
    exact ⟨xs, h1, h2, h3, fun i x d e1 e2 => (h4 i x d e1 e2).avoid hO⟩
  | tup ds =>
    obtain ⟨xs, h1, h2, h3, h4⟩ := h
    exact ⟨xs, h1, h2, h3, fun i x d e1 e2 => (h4 i x d e1 e2).avoid hO⟩
  | dct ds =>
    obtain ⟨xs, h1, h2, h3, h4⟩ := h
    exact ⟨xs, h1, h2, h3, fun i k' x k'' d e1 e2 => (h4 i k' x k'' d e1 e2).avoid hO⟩
  | dtn hs ds =>
    obtain ⟨xs, h1, h2, h3, h5, h4⟩ := h
    exact ⟨xs, h1, h2, h3, fun i k' b x e1 => (h5 i k' b x e1).avoid hO, fun i k' b x k'' d e1 e2 => (h4 i k' b x k'' d e1 e2).avoid hO⟩
  | dto b hs ds =>
    obtain ⟨xs, h1, h2, h3, h4⟩ := h
    exact ⟨xs, h1, h2, h3, fun i k' x k'' d e1 e2 => (h4 i k' x k'' d e1 e2).avoid hO⟩
  | _ => exact h.elim
theorem Ol.some (h : Ol so O H a d) : H a ≠ none := by
  cases d with
  | lst ds => obtain ⟨xs, h1, _⟩ := h; rw [h1]; exact fun z => nomatch z
  | tup ds => obtain ⟨xs, h1, _⟩ := h; rw [h1]; exact fun z => nomatch z
  | dct ds => obtain ⟨xs, h1, _⟩ := h; rw [h1]; exact fun z => nomatch z
  | dtn hs ds => obtain ⟨xs, h1, _⟩ := h; rw [h1]; exact fun z => nomatch z
  | dto b hs ds => obtain ⟨xs, h1, _⟩ := h; rw [h1]; exact fun z => nomatch z
  | _ => exact h.elim
theorem Ol.pl (h : Ol so O H a d) : Pl H a := by
  cases d with
  | lst ds => obtain ⟨xs, h1, _⟩ := h; exact ⟨_, h1, (fun _ z => nomatch z), (fun _ z => nomatch z)⟩
  | tup ds => obtain ⟨xs, h1, _⟩ := h; exact ⟨_, h1, (fun _ z => nomatch z), (fun _ z => nomatch z)⟩
  | dct ds => obtain ⟨xs, h1, _⟩ := h; exact ⟨_, h1, (fun _ z => nomatch z), (fun _ z => nomatch z)⟩
  | dtn hs ds => obtain ⟨xs, h1, _⟩ := h; exact ⟨_, h1, (fun _ z => nomatch z), fun _ => Nk.dn_ne⟩
  | dto b hs ds => obtain ⟨xs, h1, _⟩ := h; exact ⟨_, h1, (fun _ z => nomatch z), fun _ => Nko.do_ne⟩
  | _ => exact h.elim
theorem Ol.oo (h : Ol so O H a d) : Oo so O H a d := by
  cases d with
  | ob r t => exact h.elim
  | _ => exact h
theorem Ol.rgn (h : Ol so O H a d) (b : Addr) : ¬ d.rg b := by
  cases d with
  | ob r t => exact h.elim
  | _ => exact fun z => z
theorem Oo.cs {X : Prop} (h : Oo so O H a d) (h1 : Ol so O H a d → X) (h2 : ∀ r t, d = .ob r t → r.I so O H a → Rv so (fun x => O x ∧ ¬ (x = a ∨ r.rg x)) H (.ref a) t → X) : X := by
  cases d with
  | ob r t => exact h2 r t rfl h.1 h.2
  | _ => exact h1 h
theorem Oo.keepR {A : Addr → Prop} (h : Oo so O H a d) (k : Ko O A H H') (ha : ∀ b, b = a ∨ d.rg b → H' b = H b) : Oo so O H' a d :=
  h.cs (fun z => (z.keep k (ha a (.inl rfl))).oo) fun r t e i v => by subst e; exact ⟨r.keep so O A H H' a i k ha, v.keep (k.minus ha)⟩
theorem Oo.mono {O' : Addr → Prop} (h : Oo so O H a d) (hO : ∀ a, O' a → O a) : Oo so O' H a d :=
  h.cs (fun z => (z.mono hO).oo) fun r t e i v => by subst e; exact ⟨r.mono so O O' H a i hO, v.mono fun x z => ⟨hO x z.1, z.2⟩⟩
theorem Oo.avoid {O' : Addr → Prop} (h : Oo so O H a d) (hO : ∀ a, O' a → O a ∨ H a = none) : Oo so O' H a d :=
  h.cs (fun z => (z.avoid hO).oo) fun r t e i v => by subst e; exact ⟨r.avoid so O O' H a i hO, v.avoid fun x z => (hO x z.1).imp (fun q => ⟨q, z.2⟩) id⟩
theorem Oo.plR (h : Oo so O H a d) (b : Addr) (hb : b = a ∨ d.rg b) : Pl H b :=
  h.cs (fun z => hb.elim (fun e => by rw [e]; exact z.pl) fun e => (z.rgn b e).elim) fun r t e i v => by subst e; exact r.pl so O H a i b hb
theorem Oo.pl (h : Oo so O H a d) : Pl H a := h.plR a (.inl rfl)
theorem Oo.some (h : Oo so O H a d) : H a ≠ none := pl_some h.pl
theorem Stt.ex {cc : Ct} (h : Stt K so cc H) (e : Ex H H') : Stt K so cc H' := by
  refine ⟨?_, h.2.ext e⟩
  have h := h.1
  cases so with
  | none => trivial
  | some s =>
    obtain ⟨ns, n, l, m, S⟩ := h
    exact ⟨ns, n, l, m, S.ex e⟩
theorem tabs_put {T : List (Addr × Str)} {p : Addr} {o : HO} (h : LamX.Tabs T H) (hp : Pl H p) : LamX.Tabs T (upd H p o) := fun t ht => by
  obtain ⟨u, e0, n1, n2⟩ := hp
  obtain ⟨ps, h1, h2, h3⟩ := h t ht
  refine ⟨ps, by rw [upd_ne fun z => n1 ps (by rw [z, e0] at h1; exact Option.some.inj h1)]; exact h1, h2, fun pos cv hc => ?_⟩
  obtain ⟨c, e1, e2⟩ := h3 pos cv hc
  exact ⟨c, e1, by rw [upd_ne fun z => n2 t.2 (by subst z; rw [e0] at e2; exact Option.some.inj e2)]; exact e2⟩
/-- what changed is neither the state nor its cells -/
theorem Stt.put {cc : Ct} {p : Addr} {o : HO} (h : Stt K so cc H) (h1 : ∀ s, so = some s → p ≠ s ∧ p ≠ cc.cc) (h2 : Pl H p) : Stt K so cc (upd H p o) := by
  refine ⟨?_, tabs_put h.2 h2⟩
  have h := h.1
  cases so with
  | none => trivial
  | some s =>
    obtain ⟨ns, n, l, m, S⟩ := h
    obtain ⟨n1, n2⟩ := h1 s rfl
    refine ⟨ns, n, l, m, S.ne, ?_, S.len, by rw [upd_ne (Ne.symm n1)]; exact S.st⟩
    rcases S.cs with (h | ⟨o, h⟩) | h
    · exact .inl (.inl (by rw [upd_ne (Ne.symm n2)]; exact h))
    · exact .inl (.inr ⟨o, by rw [upd_ne (Ne.symm n2)]; exact h⟩)
    · exact .inr h
theorem Sv.kp {A : Addr → Prop} (S : Sv K c H1 σ env) (r : Rv c.so (Av c σ env) H x d) (k : Ko (Mv c σ env) A H H') : Rv c.so (Av c σ env) H' x d := r.keep (k.mono (Mv.av S.sO) fun _ z => z)
theorem Sv.oa (S : Sv K c H σ env) {i : Nat} (h : env[i]? = some (Sl.own d)) (hb : Oa σ i d a) : c.B a = none ∧ ¬ c.O a ∧ Pl H a := by
  obtain ⟨b, e1, e2, e3, e4⟩ := S.own i d h
  rcases hb with hb | hb
  · rw [hb] at e1
    cases e1
    exact ⟨e2, e3, e4.pl⟩
  · exact ⟨(S.reg i d a h hb).1, (S.reg i d a h hb).2, e4.plR a (.inr hb)⟩
/-- the places of an own object keep what they hold -/
theorem Sv.sameR (S : Sv K c H σ env) {A : Addr → Prop} {O : Addr → Prop} (k : Ko O A H H') (hO : ∀ a, O a → ¬ c.O a → False) (hA : ∀ a, Ow σ env a → A a) {i : Nat} (h : env[i]? = some (Sl.own d)) (ha : σ[i]? = some (some (V.ref a))) (b : Addr) (hb : b = a ∨ d.rg b) : H' b = H b := by
  have oa : Oa σ i d b := by
    rcases hb with e | e
    · exact .inl (by rw [e]; exact ha)
    · exact .inr e
  obtain ⟨_, n, p⟩ := S.oa h oa
  exact k.same (fun z => hO b z n) (hA b ⟨i, d, h, oa⟩) (pl_some p)
theorem Av.dom (S : Sv K c H σ env) (h : Av c σ env a) : H a ≠ none := by
  rcases h with h | ⟨i, d, h1, h2⟩
  · exact S.dom a h
  · exact pl_some (S.oa h1 h2).2.2
/-- the heap grows -/
theorem Sv.ex (S : Sv K c H σ env) (e : Ex H H') : Sv K c H' σ env := by
  refine ⟨⟨S.base.trans (Ko.ex e), S.lkb, S.sO, fun a h => ?_, S.stt.ex e⟩, S.len, S.uniq, S.reg, S.fzs, fun i d h => ?_, fun i d h => ?_⟩
  · exact ex_some e (S.dom a h)
  · obtain ⟨x, h1, h2⟩ := S.tree i d h
    exact ⟨x, h1, h2.ex e⟩
  · obtain ⟨x, h1, h2, h3, h4⟩ := S.own i d h
    exact ⟨x, h1, h2, h3, h4.keepR (A := fun _ => True) (Ko.ex e) (S.sameR (O := fun _ => False) (A := fun _ => True) (Ko.ex e) (fun _ z => z.elim) (fun _ _ => trivial) h h1)⟩
end
/-- a def's surroundings: the written part, the wish about exceptions, and what it is of trees (the class, the fields) -/
structure Gx where
  K : PySem.W.Frag
  E : XK
  xe : Addr → List (Str × Dt) → Prop
  lk : Bool
  T : List (Addr × Str)
def Lk (g : Gx) (c : Cc) : Prop := g.lk = c.lk ∧ (∀ C fs, g.xe C fs → ∀ H' d (xs : List (Str × V)), Hb g.K c H' → H' d = some (.xd xs) → xs.map (·.1) = fs.map (·.1) →
  (∀ (i : Nat) k x k' t, xs[i]? = some (k, x) → fs[i]? = some (k', t) → Rv c.so c.O H' x t) → g.E (.ref C) (some d) H') ∧ (g.T = [] ∨ c.cc.T = g.T)
/-- what an expression gives, and the slots behind it -/
def Et (g : Gx) (env : List Sl) (te : TE) (P : Dt → List Sl → Prop) : Prop := ∀ c, Lk g c → ∀ σ H, Sv g.K c H σ env → ∀ Q : VK,
  (∀ x d env' H1, P d env' → Sv g.K c H1 σ env' → Le env' env → Ko (Mv c σ env) (An c σ env) H H1 → Rv c.so (Av c σ env') H1 x d → Q x H1) → te σ H Q
def Eb (g : Gx) (env : List Sl) (tt : TT) (P : Bool → List Sl → Prop) : Prop := ∀ c, Lk g c → ∀ σ H, Sv g.K c H σ env → ∀ Q : Bool → Hp → Prop,
  (∀ b env' H1, P b env' → Sv g.K c H1 σ env' → Le env' env → Ko (Mv c σ env) (An c σ env) H H1 → Q b H1) → tt σ H Q
/-- a list of values is a list of trees -/
def Rvs (so : Option Addr) (O : Addr → Prop) (H : Hp) (xs : List V) (ds : List Dt) : Prop := xs.length = ds.length ∧ ∀ (i : Nat) x d, xs[i]? = some x → ds[i]? = some d → Rv so O H x d
def Ea (g : Gx) (env : List Sl) (ta : TA) (P : List Dt → List Sl → Prop) : Prop := ∀ c, Lk g c → ∀ σ H, Sv g.K c H σ env → ∀ Q : List V → Hp → Prop,
  (∀ xs ds env' H1, P ds env' → Sv g.K c H1 σ env' → Le env' env → Ko (Mv c σ env) (An c σ env) H H1 → Rvs c.so (Av c σ env') H1 xs ds → Q xs H1) → ta σ H Q
/-- a statement's ends -/
structure De where
  nx : List Sl → Prop
  rt : Dt → Prop
  bk : List Sl → Prop := fun _ => False
  ct : List Sl → Prop := fun _ => False
  re : Dt → List Sl → Prop := fun _ _ => False
/-- from one point of the body to a later one: what is kept, and the own slots are old ones or new objects -/
def Fw (c : Cc) (σ : L2.St) (env : List Sl) (H : Hp) (σ' : L2.St) (env' : List Sl) (H' : Hp) : Prop := Ko (Mv c σ env) (An c σ env) H H' ∧ ∀ a, Ow σ' env' a → Ow σ env a ∨ H a = none
theorem Fw.refl {c : Cc} {σ : L2.St} {env : List Sl} {H : Hp} : Fw c σ env H σ env H := ⟨Ko.refl, fun _ h => .inl h⟩
theorem Fw.trans {c : Cc} {σ σ1 σ2 : L2.St} {env e1 e2 : List Sl} {H H1 H2 : Hp} (f : Fw c σ env H σ1 e1 H1) (k : Fw c σ1 e1 H1 σ2 e2 H2) : Fw c σ env H σ2 e2 H2 := by
  have nm : ∀ a o, ¬ Mv c σ env a → H a = some o → ¬ Mv c σ1 e1 a := fun a o n h z => by
    rcases z with z | z
    · exact n (.inl z)
    · rcases f.2 a z with z | z
      · exact n (.inr z)
      · rw [h] at z; cases z
  refine ⟨⟨fun a o n h => ?_, fun a z => k.1.2 a (f.1.2 a z)⟩, fun a h => ?_⟩
  · have n1 := nm a o n h
    rcases f.1.1 a o n h with h2 | ⟨z, kvs, od, rfl, h2⟩
    · refine (k.1.1 a o n1 h2).imp id fun ⟨z, w⟩ => ⟨fun q => ?_, w⟩
      rcases q with q | q | q
      · exact z (.inl q)
      · exact z (.inr (.inl q))
      · exact n (.inr q)
    · rcases k.1.1 a _ n1 h2 with h3 | ⟨_, kvs', od', q, _⟩
      · exact .inr ⟨z, kvs, od, rfl, h3⟩
      · cases q
  · rcases k.2 a h with h | h
    · exact f.2 a h
    · exact .inr (f.1.back h)
/-- the surroundings stay the same but for the heap -/
def Wd (g : Gx) (env : List Sl) (t : TS) (E : De) : Prop := ∀ c, Lk g c → ∀ σ H, Sv g.K c H σ env → ∀ D : Ends,
  (∀ σ' H' env', Sv g.K c H' σ' env' → Fw c σ env H σ' env' H' → E.nx env' → D.nx σ' H') → (∀ σ' H' env', Sv g.K c H' σ' env' → Fw c σ env H σ' env' H' → E.bk env' → D.bk σ' H') →
  (∀ σ' H' env', Sv g.K c H' σ' env' → Fw c σ env H σ' env' H' → E.ct env' → D.ct σ' H') →
  (∀ x d H', E.rt d → Hb g.K c H' → Ko (Mv c σ env) (An c σ env) H H' → Rv c.so c.O H' x d → D.rt x H') →
  (∀ x d σ' H' env', E.re d env' → Sv g.K c H' σ' env' → Fw c σ env H σ' env' H' → Rv c.so (Av c σ' env') H' x d → D.rt x H') → t D σ H
end Wv
/-! Rules of expressions over trees. -/
namespace Wv
open PySem L2 Evl
section
variable {g : Gx} {c : Cc} {H H1 H2 H' : Hp} {σ : L2.St} {env e1 : List Sl} {ta tb te : TE} {tt tu : TT} {P : Dt → List Sl → Prop} {x : V} {d : Dt}
theorem Sv.lk_av (S : Sv g.K c H σ env) : ∀ a, Av c σ env a → H a ≠ none := fun a h => Av.dom S h
/-- a new object at p -/
theorem Sv.nav (S : Sv g.K c H σ env) {p : Addr} (hp : H p = none) : ¬ Av c σ env p := fun z => Av.dom S z hp
theorem et_var {i : Nat} (h : env[i]? = some (Sl.v d)) (p : P d env) : Et g env (tVar i) P := fun c L σ H S Q q => by
  obtain ⟨x, h1, r⟩ := S.tree i d h
  exact ⟨x, h1, q x d env H p S Le.refl Ko.refl r⟩
theorem et_int {i : Int} (p : P (.int i) env) : Et g env (tC (.int i)) P := fun c L σ H S Q q => q _ _ env H p S Le.refl Ko.refl (.int i)
theorem et_bl {b : Bool} (p : P (.bl b) env) : Et g env (tC (.bl b)) P := fun c L σ H S Q q => q _ _ env H p S Le.refl Ko.refl (.bl b)
theorem et_non (p : P .non env) : Et g env (tC .non) P := fun c L σ H S Q q => q _ _ env H p S Le.refl Ko.refl .non
theorem et_str {z : Str} (p : P (.str z) env) (hz : z.length ≤ Zz := by decide) : Et g env (tC (.str z)) P := fun c L σ H S Q q => q _ _ env H p S Le.refl Ko.refl (.str hz)
/-- setting one slot: the rest as before -/
theorem Sl.get_set {env : List Sl} {i j : Nat} {s t : Sl} (h : (env.set i s)[j]? = some t) : (j = i ∧ s = t) ∨ (j ≠ i ∧ env[j]? = some t) := by
  rw [List.getElem?_set] at h
  split at h
  · rename_i e
    split at h
    · exact .inl ⟨e.symm, Option.some.inj h⟩
    · cases h
  · rename_i e
    exact .inr ⟨fun z => e z.symm, h⟩
theorem le_set_v {i : Nat} : Le (env.set i (.v d)) env := fun j e h => by
  rcases Sl.get_set h with ⟨_, z⟩ | ⟨_, z⟩
  · cases z
  · exact ⟨e, z, fun _ q => q⟩
/-- an own list or dict is a tree, if the slot is a tree's from then on -/
theorem own_tree {i : Nat} (S : Sv g.K c H σ env) (h : env[i]? = some (Sl.own d)) : ∃ a, σ[i]? = some (some (V.ref a)) ∧ c.B a = none ∧ Rv c.so (Av c σ (env.set i (.v d))) H (.ref a) d ∧ Oo c.so (Av c σ env) H a d := by
  obtain ⟨a, h1, h2, h3, h4⟩ := S.own i d h
  have nr : ∀ b, Oa σ i d b → ¬ Av c σ (env.set i (.v d)) b := fun b hb z => by
    rcases z with z | ⟨j, e, z1, z2⟩
    · exact (S.oa h hb).2.1 z
    · rcases Sl.get_set z1 with ⟨_, z⟩ | ⟨n, z⟩
      · cases z
      · exact n (S.uniq j i e d b z h z2 hb)
  have na := nr a (.inl h1)
  have hm : ∀ a, Av c σ (env.set i (.v d)) a → Av c σ env a := Av.le le_set_v
  refine ⟨a, h1, h2, ?_, h4⟩
  cases d with
  | lst ds =>
    obtain ⟨xs, k1, k2, k3, k4⟩ := h4
    exact .lst na k1 k2 k3 fun i x d e1 e2 => (k4 i x d e1 e2).mono hm
  | tup ds =>
    obtain ⟨xs, k1, k2, k3, k4⟩ := h4
    exact .tup na k1 k2 k3 fun i x d e1 e2 => (k4 i x d e1 e2).mono hm
  | dct ds =>
    obtain ⟨xs, k1, k2, k3, k4⟩ := h4
    exact .dct na (.inl k1) k2 k3 fun i k x k' d e1 e2 => (k4 i k x k' d e1 e2).mono hm
  | dtn hs ds =>
    obtain ⟨xs, k1, k2, k3, k5, k4⟩ := h4
    exact .dtn na k1 k2 k3 (fun i k b x e1 => (k5 i k b x e1).mono hm) fun i k b x k' d e1 e2 => (k4 i k b x k' d e1 e2).mono hm
  | dto b hs ds =>
    obtain ⟨xs, k1, k2, k3, k4⟩ := h4
    exact .dto na k1 k2 k3 fun i k x k' d e1 e2 => (k4 i k x k' d e1 e2).mono hm
  | ob r t =>
    refine .ob (h4.2.mono fun x z => ⟨hm x z, fun q => nr x ?_ z⟩)
    rcases q with q | q
    · exact .inl (by rw [q]; exact h1)
    · exact .inr q
  | _ => exact h4.elim
theorem Sv.frz {i : Nat} (S : Sv g.K c H σ env) (h : env[i]? = some (Sl.own d)) : Sv g.K c H σ (env.set i (.v d)) := by
  obtain ⟨a, h1, _, h2, _⟩ := own_tree S h
  have hm : ∀ a, Av c σ (env.set i (.v d)) a → Av c σ env a := Av.le le_set_v
  refine ⟨S.toHb, by rw [S.len, List.length_set], fun j k e f b z1 z2 z3 z4 => ?_, fun j e b z1 z2 => ?_, fun j r z => ?_, fun j e z => ?_, fun j e z => ?_⟩
  · rcases Sl.get_set z1 with ⟨_, z⟩ | ⟨_, z1⟩
    · cases z
    · rcases Sl.get_set z2 with ⟨_, z⟩ | ⟨_, z2⟩
      · cases z
      · exact S.uniq j k e f b z1 z2 z3 z4
  · rcases Sl.get_set z1 with ⟨_, z⟩ | ⟨_, z1⟩
    · cases z
    · exact S.reg j e b z1 z2
  · rcases Sl.get_set z with ⟨_, z⟩ | ⟨_, z⟩
    · cases z
    · exact S.fzs j r z
  · rcases Sl.get_set z with ⟨ej, z⟩ | ⟨_, z⟩
    · cases z
      subst ej
      exact ⟨.ref a, h1, h2⟩
    · obtain ⟨x, k1, k2⟩ := S.tree j e z
      exact ⟨x, k1, k2.mono hm⟩
  · rcases Sl.get_set z with ⟨_, z⟩ | ⟨_, z⟩
    · cases z
    · obtain ⟨x, k1, k2, k3, k4⟩ := S.own j e z
      exact ⟨x, k1, k2, k3, k4.mono hm⟩
/-- an own list or dict handed on: a tree from then on -/
theorem et_own {i : Nat} (h : env[i]? = some (Sl.own d)) (p : P d (env.set i (.v d))) : Et g env (tVar i) P := fun c L σ H S Q q => by
  obtain ⟨a, h1, _, h2, _⟩ := own_tree S h
  exact ⟨.ref a, h1, q _ d _ H p (S.frz h) le_set_v Ko.refl h2⟩
/-- frames compose: from fewer own slots -/
theorem Ko.le (k2 : Ko (Mv c σ e1) (An c σ e1) H1 H2) (l : Le e1 env) : Ko (Mv c σ env) (An c σ env) H1 H2 :=
  ⟨fun a o n e => (k2.1 a o (fun z => n (Mv.le l a z)) e).imp id fun z => ⟨fun q => q.elim (fun q => z.1 (.inl q)) fun q => q.elim (fun q => z.1 (.inr (.inl q))) (fun q => n (.inr q)), z.2⟩, k2.2⟩
/-- an operation on two values, told of trees: what it gives is asked by f -/
def Rop (K : PySem.W.Frag) (r : R2) (f : Dt → Dt → (Dt → Prop) → Prop) : Prop := ∀ so O H x y d e, (∀ a, O a → H a ≠ none) → Rv so O H x d → Rv so O H y e → ∀ PD, f d e PD → ∀ Q : VK, (∀ z t H1, PD t → Ex H H1 → Rv so O H1 z t → Q z H1) → r x y H Q
/-- a call on values -/
def Rcl (K : PySem.W.Frag) (r : List V → Hp → VK → Prop) (f : List Dt → (Dt → Prop) → Prop) : Prop := ∀ so O H xs ds, (∀ a, O a → H a ≠ none) → Rvs so O H xs ds → ∀ PD, f ds PD → ∀ Q : VK, (∀ z t H1, PD t → Ex H H1 → Rv so O H1 z t → Q z H1) → r xs H Q
theorem et_op {r : R2} {f : Dt → Dt → (Dt → Prop) → Prop} (hr : Rop g.K r f) (h : Et g env ta fun d e1 => Et g e1 tb fun e e2 => f d e fun t => P t e2) : Et g env (tOp r ta tb) P := fun c L σ H S Q q =>
  h c L σ H S _ fun x d env1 H1 p1 S1 l1 k1 r1 => p1 c L σ H1 S1 _ fun y e env2 H2 p2 S2 l2 k2 r2 =>
    hr c.so (Av c σ env2) H2 x y d e S2.lk_av ((S1.kp r1 k2).mono (Av.le l2)) r2 _ p2 Q fun z t H3 p3 e3 r3 =>
      q z t env2 H3 p3 (S2.ex e3) (l1.trans l2) ((k1.trans (k2.le l1)).trans (Ko.ex e3)) r3
/-- the first operand an own list or dict, the answer flat -/
theorem et_opL {r : R2} {f : Dt → Dt → (Dt → Prop) → Prop} {i : Nat} {d0 : Dt} (hr : Rop g.K r f) (h0 : env[i]? = some (Sl.own d0)) (h : Et g env tb fun e e2 => ∃ d, e2[i]? = some (Sl.own d) ∧ f d e fun t => scl t = true ∧ P t e2) : Et g env (tOp r (tVar i) tb) P := fun c L σ H S Q q => by
  obtain ⟨a, h1, _⟩ := S.own i d0 h0
  refine ⟨.ref a, h1, h c L σ H S _ fun y e env2 H2 ⟨d, hd, p2⟩ S2 l2 k2 r2 => ?_⟩
  obtain ⟨a', h1', _, r1, _⟩ := own_tree S2 hd
  rw [h1] at h1'
  cases h1'
  exact hr c.so (Av c σ (env2.set i (.v d))) H2 _ y d e (fun a z => S2.lk_av a (Av.le le_set_v a z)) r1 (r2.mono (Av.le le_set_v)) _ p2 Q fun z t H3 p3 e3 r3 =>
    q z t env2 H3 p3.2 (S2.ex e3) l2 (k2.trans (Ko.ex e3)) (r3.scal p3.1)
theorem et_opR {r : R2} {f : Dt → Dt → (Dt → Prop) → Prop} {i : Nat} (hr : Rop g.K r f) (h : Et g env ta fun e e2 => ∃ d, e2[i]? = some (Sl.own d) ∧ f e d fun t => scl t = true ∧ P t e2) : Et g env (tOp r ta (tVar i)) P := fun c L σ H S Q q => by
  refine h c L σ H S _ fun y e env2 H2 ⟨d, hd, p2⟩ S2 l2 k2 r2 => ?_
  obtain ⟨a', h1', _, r1, _⟩ := own_tree S2 hd
  exact ⟨.ref a', h1', hr c.so (Av c σ (env2.set i (.v d))) H2 y _ e d (fun a z => S2.lk_av a (Av.le le_set_v a z)) (r2.mono (Av.le le_set_v)) r1 _ p2 Q fun z t H3 p3 e3 r3 =>
    q z t env2 H3 p3.2 (S2.ex e3) l2 (k2.trans (Ko.ex e3)) (r3.scal p3.1)⟩
theorem Rvs.keep {so : Option Addr} {O : Addr → Prop} {xs : List V} {ds : List Dt} (r : Rvs so O H xs ds) {A : Addr → Prop} (k : Ko O A H H') : Rvs so O H' xs ds := ⟨r.1, fun i x d h1 h2 => (r.2 i x d h1 h2).keep k⟩
theorem Rvs.mono {so : Option Addr} {O O' : Addr → Prop} {xs : List V} {ds : List Dt} (r : Rvs so O H xs ds) (k : ∀ a, O' a → O a) : Rvs so O' H xs ds := ⟨r.1, fun i x d h1 h2 => (r.2 i x d h1 h2).mono k⟩
theorem Rvs.nil {so : Option Addr} {O : Addr → Prop} : Rvs so O H [] [] := ⟨rfl, fun i x d h => by simp at h⟩
theorem Rvs.cons {so : Option Addr} {O : Addr → Prop} {xs : List V} {ds : List Dt} (h : Rv so O H x d) (r : Rvs so O H xs ds) : Rvs so O H (x :: xs) (d :: ds) := ⟨by simp [r.1], fun i y e h1 h2 => by
  cases i with
  | zero => cases h1; cases h2; exact h
  | succ i => exact r.2 i y e h1 h2⟩
theorem ea_nil {P : List Dt → List Sl → Prop} (p : P [] env) : Ea g env tNil P := fun c L σ H S Q q => q [] [] env H p S Le.refl Ko.refl Rvs.nil
theorem ea_cons {tr : TA} {P : List Dt → List Sl → Prop} (h : Et g env te fun d e1 => Ea g e1 tr fun ds e2 => P (d :: ds) e2) : Ea g env (tCons te tr) P := fun c L σ H S Q q =>
  h c L σ H S _ fun x d env1 H1 p1 S1 l1 k1 r1 => p1 c L σ H1 S1 _ fun ys ds env2 H2 p2 S2 l2 k2 r2 =>
    q _ _ env2 H2 p2 S2 (l1.trans l2) (k1.trans (k2.le l1)) (Rvs.cons ((S1.kp r1 k2).mono (Av.le l2)) r2)
theorem et_cb {r : List V → Hp → VK → Prop} {f : List Dt → (Dt → Prop) → Prop} {ta : TA} (hr : Rcl g.K r f) (h : Ea g env ta fun ds e1 => f ds fun t => P t e1) : Et g env (tCB r ta) P := fun c L σ H S Q q =>
  h c L σ H S _ fun xs ds env1 H1 p1 S1 l1 k1 r1 => hr c.so (Av c σ env1) H1 xs ds S1.lk_av r1 _ p1 Q fun z t H3 p3 e3 r3 => q z t env1 H3 p3 (S1.ex e3) l1 (k1.trans (Ko.ex e3)) r3
/-- of one own list or dict, the answer flat (len, any, all, sum ..) -/
theorem et_cbO {r : List V → Hp → VK → Prop} {f : List Dt → (Dt → Prop) → Prop} {i : Nat} (hr : Rcl g.K r f) (h : env[i]? = some (Sl.own d)) (p : f [d] fun t => scl t = true ∧ P t env) : Et g env (tCB r (tCons (tVar i) tNil)) P := fun c L σ H S Q q => by
  obtain ⟨a, h1, _, r1, _⟩ := own_tree S h
  exact ⟨.ref a, h1, hr c.so (Av c σ (env.set i (.v d))) H _ _ (fun a z => S.lk_av a (Av.le le_set_v a z)) (Rvs.cons r1 Rvs.nil) _ p Q fun z t H3 p3 e3 r3 => q z t env H3 p3.2 (S.ex e3) Le.refl (Ko.ex e3) (r3.scal p3.1)⟩
/-! ### tests -/
@[irreducible] def isB : Dt → (Bool → Prop) → Prop
  | .bl b, k => k b
  | _, _ => False
theorem isB_bl {b : Bool} {k : Bool → Prop} : isB (.bl b) k = k b := by unfold isB; rfl
theorem isB_dt {k : Bool → Prop} (h : isB d k) : ∃ b, d = .bl b ∧ k b := by
  unfold isB at h
  cases d with
  | bl b => exact ⟨b, rfl, h⟩
  | _ => exact h.elim
theorem isB_rv {so : Option Addr} {O : Addr → Prop} {k : Bool → Prop} (r : Rv so O H x d) (h : isB d k) : ∃ b, x = .bl b ∧ k b := by
  obtain ⟨b, rfl, hk⟩ := isB_dt h
  cases r with
  | bl b => exact ⟨_, rfl, hk⟩
theorem eb_test {P : Bool → List Sl → Prop} (h : Et g env te fun d e => isB d fun b => P b e) : Eb g env (tTest te) P := fun c L σ H S Q q =>
  h c L σ H S _ fun x d env1 H1 p1 S1 l1 k1 r1 => by
    obtain ⟨b, e, p⟩ := isB_rv r1 p1
    exact ⟨b, e, q b env1 H1 p S1 l1 k1⟩
theorem eb_B {P : Bool → List Sl → Prop} (h : Et g env te fun d e => isB d fun b => P b e) : Eb g env (tB te) P := fun c L σ H S Q q =>
  h c L σ H S _ fun x d env1 H1 p1 S1 l1 k1 r1 => by
    obtain ⟨b, e, p⟩ := isB_rv r1 p1
    exact ⟨b, e, q b env1 H1 p S1 l1 k1⟩
theorem eb_not {P : Bool → List Sl → Prop} (h : Eb g env tt fun b e => P (!b) e) : Eb g env (tNot tt) P := fun c L σ H S Q q =>
  h c L σ H S _ fun b e H1 p S1 l k => q (!b) e H1 p S1 l k
theorem eb_and {P : Bool → List Sl → Prop} (h : Eb g env tt fun b e => if b = true then Eb g e tu P else P false e) : Eb g env (tAnd tt tu) P := fun c L σ H S Q q =>
  h c L σ H S _ fun b e H1 p S1 l k => by
    cases b with
    | true => exact p c L σ H1 S1 Q fun b' e' H2 p' S2 l2 k2 => q b' e' H2 p' S2 (l.trans l2) (k.trans (k2.le l))
    | false => exact q false e H1 p S1 l k
theorem eb_or {P : Bool → List Sl → Prop} (h : Eb g env tt fun b e => if b = true then P true e else Eb g e tu P) : Eb g env (tOr tt tu) P := fun c L σ H S Q q =>
  h c L σ H S _ fun b e H1 p S1 l k => by
    cases b with
    | false => exact p c L σ H1 S1 Q fun b' e' H2 p' S2 l2 k2 => q b' e' H2 p' S2 (l.trans l2) (k.trans (k2.le l))
    | true => exact q true e H1 p S1 l k
theorem et_andV (h : Et g env ta fun d e => isB d fun b => if b = true then Et g e tb P else P (.bl false) e) : Et g env (tAndV ta tb) P := fun c L σ H S Q q =>
  h c L σ H S _ fun x d env1 H1 p1 S1 l1 k1 r1 => by
    obtain ⟨b, e, p⟩ := isB_rv r1 p1
    refine ⟨b, e, ?_⟩
    cases b with
    | true => exact p c L σ H1 S1 Q fun y d' e' H2 p' S2 l2 k2 r2 => q y d' e' H2 p' S2 (l1.trans l2) (k1.trans (k2.le l1)) r2
    | false => exact q _ _ _ H1 p S1 l1 k1 (.bl false)
theorem et_orV (h : Et g env ta fun d e => isB d fun b => if b = true then P (.bl true) e else Et g e tb P) : Et g env (tOrV ta tb) P := fun c L σ H S Q q =>
  h c L σ H S _ fun x d env1 H1 p1 S1 l1 k1 r1 => by
    obtain ⟨b, e, p⟩ := isB_rv r1 p1
    refine ⟨b, e, ?_⟩
    cases b with
    | false => exact p c L σ H1 S1 Q fun y d' e' H2 p' S2 l2 k2 r2 => q y d' e' H2 p' S2 (l1.trans l2) (k1.trans (k2.le l1)) r2
    | true => exact q _ _ _ H1 p S1 l1 k1 (.bl true)
theorem et_notV (h : Et g env ta fun d e => isB d fun b => P (.bl (!b)) e) : Et g env (tNotV ta) P := fun c L σ H S Q q =>
  h c L σ H S _ fun x d env1 H1 p1 S1 l1 k1 r1 => by
    obtain ⟨b, e, p⟩ := isB_rv r1 p1
    exact ⟨b, e, q _ _ _ H1 p S1 l1 k1 (.bl _)⟩
theorem et_if (h : Eb g env tt fun b e => if b = true then Et g e ta P else Et g e tb P) : Et g env (tIf tt ta tb) P := fun c L σ H S Q q =>
  h c L σ H S _ fun b e H1 p S1 l1 k1 => by
    cases b with
    | true => exact p c L σ H1 S1 Q fun y d' e' H2 p' S2 l2 k2 r2 => q y d' e' H2 p' S2 (l1.trans l2) (k1.trans (k2.le l1)) r2
    | false => exact p c L σ H1 S1 Q fun y d' e' H2 p' S2 l2 k2 r2 => q y d' e' H2 p' S2 (l1.trans l2) (k1.trans (k2.le l1)) r2
/-! ### displays -/
theorem Av.add {p a : Addr} : Av (c.add p) σ env a ↔ Av c σ env a ∨ a = p := ⟨fun h => by
  rcases h with (h | h) | h
  · exact .inl (.inl h)
  · exact .inr h
  · exact .inl (.inr h), fun h => by
  rcases h with (h | h) | h
  · exact .inl (.inl h)
  · exact .inr h
  · exact .inl (.inr h)⟩
/-- a new object is avoided from then on -/
theorem Hb.add {p : Addr} {o : HO} (S : Hb g.K c H) (hp : H p = none) : Hb g.K (c.add p) (upd H p o) := by
  have e := Ex.new (o := o) hp
  refine ⟨?_, S.lkb, fun a h => ⟨.inl (S.sO a h).1, fun s z => .inl ((S.sO a h).2 s z)⟩, fun a h => ?_, S.stt.ex e⟩
  · refine ⟨fun a u n h => ?_, fun a z => ex_some e (S.base.2 a z)⟩
    rcases S.base.1 a u n h with z | ⟨z, kvs, od, rfl, w⟩
    · exact .inl (e a u z)
    · exact .inr ⟨fun q => Or.elim (show c.lb = false ∨ c.O a ∨ a = p from q) (fun q => z (.inl q)) (fun q => q.elim (fun q => z (.inr q)) (fun q => by rw [q, hp] at w; cases w)), kvs, od, rfl, e a _ w⟩
  · rcases h with h | h
    · exact ex_some e (S.dom a h)
    · rw [h, upd_same]; exact fun z => nomatch z
theorem Hb.less {p : Addr} (S : Hb g.K (c.add p) H) (hs : SO c) : Hb g.K c H :=
  ⟨S.base.mono (fun _ z => z) (fun a z => z.imp id .inl), S.lkb, hs, fun a h => S.dom a (.inl h), S.stt⟩
theorem Lk.add {p : Addr} (L : Lk g c) (hs : SO c) : Lk g (c.add p) := ⟨L.1, fun C fs hx H' d xs hb h1 h2 h3 => L.2.1 C fs hx H' d xs (hb.less hs) h1 h2 fun i k' x k'' t e1 e2 => (h3 i k' x k'' t e1 e2).mono fun a z => .inl z, L.2.2⟩
/-- a new object is avoided from then on -/
theorem base_none (S : Sv g.K c H σ env) {p : Addr} (hp : H p = none) : c.B p = none := S.base.back hp
theorem Fz.at_ {K : PySem.W.Frag} {r : Reg} (f : Fz c r) (b : Hb K c H) : r.I c.so c.O H r.ad := r.keep _ c.O (fun a => c.lb = false ∨ c.O a) c.B H _ f.inv (b.base.mono (fun a z => (b.sO a z).1) fun _ z => z) fun x hx => b.base.same (f.pl x hx).2 (.inr (f.pl x hx).1) (pl_some (r.pl _ _ _ _ f.inv x hx))
theorem Fz.add {r : Reg} {p : Addr} (f : Fz c r) (hB : c.B p = none) : Fz (c.add p) r := ⟨r.avoid c.so c.O _ c.B r.ad f.inv fun b z => z.imp id fun z => by rw [z]; exact hB, fun b z => ⟨.inl (f.pl b z).1, (f.pl b z).2⟩⟩
theorem Fz.less {r : Reg} {p : Addr} (f : Fz (c.add p) r) (h : ∀ b, b = r.ad ∨ r.rg b → b ≠ p) : Fz c r := ⟨r.mono c.so _ c.O c.B r.ad f.inv fun b z => .inl z, fun b z => ⟨(f.pl b z).1.elim id fun e => absurd e (h b z), (f.pl b z).2⟩⟩
theorem Sv.add {p : Addr} {o : HO} (S : Sv g.K c H σ env) (hp : H p = none) : Sv g.K (c.add p) (upd H p o) σ env := by
  have nr : ∀ i d, env[i]? = some (Sl.own d) → ∀ b, Oa σ i d b → b ≠ p := fun i d h b hb z => pl_some (S.oa h hb).2.2 (by rw [z]; exact hp)
  refine ⟨S.toHb.add hp, S.len, S.uniq, fun i d b h hb => ⟨(S.reg i d b h hb).1, fun z => Or.elim (show c.O b ∨ b = p from z) (S.reg i d b h hb).2 (nr i d h b (.inr hb))⟩, fun i r z => ⟨(S.fzs i r z).1, (S.fzs i r z).2.add (base_none S hp)⟩, fun i d h => ?_, fun i d h => ?_⟩
  · obtain ⟨x, h1, h2⟩ := S.tree i d h
    refine ⟨x, h1, (h2.avoid fun a z => ?_).ex (Ex.new hp)⟩
    rcases Av.add.mp z with z | z
    · exact .inl z
    · exact .inr (by rw [z]; exact hp)
  · obtain ⟨x, h1, h2, h3, h4⟩ := S.own i d h
    have nx : x ≠ p := nr i d h x (.inl h1)
    refine ⟨x, h1, h2, fun z => Or.elim (show c.O x ∨ x = p from z) h3 nx, (h4.avoid fun a z => ?_).keepR (A := c.O) (Ko.new hp) fun b hb => upd_ne (nr i d h b (hb.elim (fun e => .inl (by rw [e]; exact h1)) .inr))⟩
    rcases Av.add.mp z with z | z
    · exact .inl z
    · exact .inr (by rw [z]; exact hp)
theorem Sv.less {p : Addr} (S : Sv g.K (c.add p) H σ env) (hs : SO c) (hB : c.B p = none) : Sv g.K c H σ env := by
  have m : ∀ a, Av c σ env a → Av (c.add p) σ env a := fun a h => Av.add.mpr (.inl h)
  have nfp : ∀ i r, env[i]? = some (Sl.fz r) → ∀ b, b = r.ad ∨ r.rg b → b ≠ p := fun i r z b q e => pl_some (r.pl _ _ _ _ (S.fzs i r z).2.inv b q) (by rw [e]; exact hB)
  refine ⟨S.toHb.less hs, S.len, S.uniq, fun i d b h hb => ⟨(S.reg i d b h hb).1, fun z => (S.reg i d b h hb).2 (.inl z)⟩, fun i r z => ⟨(S.fzs i r z).1, (S.fzs i r z).2.less fun b q => (nfp i r z b q)⟩, fun i d h => ?_, fun i d h => ?_⟩
  · obtain ⟨x, h1, h2⟩ := S.tree i d h
    exact ⟨x, h1, h2.mono m⟩
  · obtain ⟨x, h1, h2, h3, h4⟩ := S.own i d h
    exact ⟨x, h1, h2, fun z => h3 (.inl z), h4.mono m⟩
/-- a fresh list or dict, for an own slot -/
def Ef (g : Gx) (env : List Sl) (te : TE) (P : Dt → List Sl → Prop) : Prop := ∀ c, Lk g c → ∀ σ H, Sv g.K c H σ env → ∀ Q : VK,
  (∀ a d env' H1, P d env' → Sv g.K (c.add a) H1 σ env' → Le env' env → Ko (Mv c σ env) (An c σ env) H H1 → H a = none → Ol c.so (Av (c.add a) σ env') H1 a d → Q (.ref a) H1) → te σ H Q
theorem Ol.rv {so : Option Addr} {O : Addr → Prop} {a : Addr} (h : Ol so O H a d) (n : ¬ O a) : Rv so O H (.ref a) d := by
  cases d with
  | lst ds =>
    obtain ⟨xs, k1, k2, k3, k4⟩ := h
    exact .lst n k1 k2 k3 k4
  | tup ds =>
    obtain ⟨xs, k1, k2, k3, k4⟩ := h
    exact .tup n k1 k2 k3 k4
  | dct ds =>
    obtain ⟨xs, k1, k2, k3, k4⟩ := h
    exact .dct n (.inl k1) k2 k3 k4
  | dtn hs ds =>
    obtain ⟨xs, k1, k2, k3, k5, k4⟩ := h
    exact .dtn n k1 k2 k3 k5 k4
  | dto b hs ds =>
    obtain ⟨xs, k1, k2, k3, k4⟩ := h
    exact .dto n k1 k2 k3 k4
  | _ => exact h.elim
theorem Oo.rv {so : Option Addr} {O : Addr → Prop} {a : Addr} (h : Oo so O H a d) (n : ∀ b, b = a ∨ d.rg b → ¬ O b) : Rv so O H (.ref a) d :=
  h.cs (fun z => z.rv (n a (.inl rfl))) fun r t e i v => by subst e; exact .ob (v.mono fun x z => ⟨z, fun q => n x q z⟩)
theorem nav_add {a : Addr} (S : Sv g.K c H σ env) (S1 : Sv g.K (c.add a) H1 σ e1) (ha : H a = none) : ¬ Av c σ e1 a := fun z => by
  rcases z with z | ⟨i, d, z1, z2⟩
  · exact S.dom a z ha
  · exact (S1.oa z1 z2).2.1 (.inr rfl)
theorem Ef.et (h : Ef g env te P) : Et g env te P := fun c L σ H S Q q => h c L σ H S Q fun a d e H1 p S1 l k n o =>
  q _ d e H1 p (S1.less S.sO (base_none S n)) l k ((o.mono fun a z => Av.add.mpr (.inl z)).rv (nav_add S S1 n))
theorem ef_lst {ta : TA} (h : Ea g env ta fun ds e => ds.length ≤ Zz ∧ P (.lst ds) e) : Ef g env (tLst ta) P := fun c L σ H S Q q =>
  h c L σ H S _ fun xs ds e H1 ⟨hz, p⟩ S1 l k r => ⟨sz_of (by rw [r.1]; exact Nat.le_trans hz (by decide)), fun a ha =>
    q a (.lst ds) e _ p (S1.add ha) l (k.trans (Ko.new ha)) (k.back ha) ⟨xs, upd_same, r.1, hz, fun i x d h1 h2 => ((r.2 i x d h1 h2).avoid fun b z => (Av.add.mp z).imp id fun z => by rw [z]; exact ha).ex (Ex.new ha)⟩⟩
theorem et_tup {ta : TA} (h : Ea g env ta fun ds e => ds.length ≤ Zz ∧ P (.tup ds) e) : Et g env (tTup ta) P := fun c L σ H S Q q =>
  h c L σ H S _ fun xs ds e H1 ⟨hz, p⟩ S1 l k r => ⟨sz_of (by rw [r.1]; exact Nat.le_trans hz (by decide)), fun a ha =>
    q _ (.tup ds) e _ p (S1.ex (Ex.new ha)) l (k.trans (Ko.new ha)) (.tup (S1.nav ha) upd_same r.1 hz fun i x d h1 h2 => (r.2 i x d h1 h2).ex (Ex.new ha))⟩
theorem ef_dnew (p : P (.dct []) env) : Ef g env tDNewK P := fun c L σ H S Q q a ha =>
  q a (.dct []) env _ p (S.add ha) Le.refl (Ko.new ha) ha ⟨[], upd_same, rfl, Nat.zero_le _, fun i k x k' d h => by simp at h⟩
end
end Wv
/-! Rules of statements over trees. -/
namespace Wv
open PySem L2 Evl
section
variable {g : Gx} {c : Cc} {H H1 H2 H' : Hp} {σ : L2.St} {env e1 : List Sl} {ta tb te : TE} {tt : TT} {t u tu tw : TS} {P : Dt → List Sl → Prop} {x : V} {d : Dt} {E : De}
theorem fw_e {env' : List Sl} (l : Le env' env) (k : Ko (Mv c σ env) (An c σ env) H H1) : Fw c σ env H σ env' H1 := ⟨k, fun a z => .inl (Ow.le l a z)⟩
theorem oa_ne {i j : Nat} {y : Option V} {e : Dt} {a : Addr} (n : j ≠ i) (h : Oa (σ.set i y) j e a) : Oa σ j e a := h.imp (fun h => by rw [List.getElem?_set, if_neg (Ne.symm n)] at h; exact h) id
theorem wd_next (h : E.nx env) : Wd g env tNext E := fun c L σ H S D n b k r re => n σ H env S Fw.refl h
theorem wd_seq (h : Wd g env t { E with nx := fun e => Wd g e u E }) : Wd g env (tSeq t u) E := fun c L σ H S D n b k r re =>
  h c L σ H S _ (fun σ1 H1 e1 S1 f1 w => w c L σ1 H1 S1 D (fun σ2 H2 e2 S2 f2 z => n σ2 H2 e2 S2 (f1.trans f2) z) (fun σ2 H2 e2 S2 f2 z => b σ2 H2 e2 S2 (f1.trans f2) z) (fun σ2 H2 e2 S2 f2 z => k σ2 H2 e2 S2 (f1.trans f2) z) (fun x d H' p hb kf rv => r x d H' p hb (Fw.trans f1 ⟨kf, fun a z => .inl z⟩).1 rv) fun x d σ2 H2 e2 p S2 f2 rv => re x d σ2 H2 e2 p S2 (f1.trans f2) rv) b k r re
theorem wd_if (h : Eb g env tt fun b e => if b = true then Wd g e tu E else Wd g e tw E) : Wd g env (tIfS tt tu tw) E := fun c L σ H S D n b k r re =>
  h c L σ H S _ fun v e1 H1 p S1 l1 k1 => by
    have go : ∀ {w : TS}, Wd g e1 w E → w D σ H1 := fun w => w c L σ H1 S1 D (fun σ2 H2 e2 S2 f2 z => n σ2 H2 e2 S2 ((fw_e l1 k1).trans f2) z) (fun σ2 H2 e2 S2 f2 z => b σ2 H2 e2 S2 ((fw_e l1 k1).trans f2) z) (fun σ2 H2 e2 S2 f2 z => k σ2 H2 e2 S2 ((fw_e l1 k1).trans f2) z) (fun x d H' p hb kf rv => r x d H' p hb ((fw_e l1 k1).trans (σ2 := σ) (e2 := e1) ⟨kf, fun a z => .inl z⟩).1 rv) fun x d σ2 H2 e2 p S2 f2 rv => re x d σ2 H2 e2 p S2 ((fw_e l1 k1).trans f2) rv
    cases v with
    | true => exact go p
    | false => exact go p
theorem wd_drop (h : Et g env te fun d e => E.nx e) : Wd g env (tDrop te) E := fun c L σ H S D n b k r re =>
  h c L σ H S _ fun x d e1 H1 p S1 l1 k1 r1 => n σ H1 e1 S1 (fw_e l1 k1) p
theorem wd_ret (h : Et g env te fun d e => E.rt d) : Wd g env (tRet te) E := fun c L σ H S D n b k r re =>
  h c L σ H S _ fun x d e1 H1 p S1 l1 k1 r1 => r x d H1 p S1.toHb k1 (r1.mono fun a z => .inl z)
/-- a return that tells the slots -/
theorem wd_retE (h : Et g env te fun d e => E.re d e) : Wd g env (tRet te) E := fun c L σ H S D n b k r re =>
  h c L σ H S _ fun x d e1 H1 p S1 l1 k1 r1 => re x d σ H1 e1 p S1 (fw_e l1 k1) r1
theorem wd_retN (h : E.rt .non) : Wd g env tRetN E := fun c L σ H S D n b k r re => r .non .non H h S.toHb Ko.refl .non
theorem wd_imp {E' : De} (h : Wd g env t E') (h1 : ∀ e, E'.nx e → E.nx e) (h2 : ∀ d, E'.rt d → E.rt d) (h3 : ∀ e, E'.bk e → E.bk e) (h4 : ∀ e, E'.ct e → E.ct e) (h5 : ∀ d e, E'.re d e → E.re d e := by exact fun _ _ z => z) : Wd g env t E := fun c L σ H S D n b k r re =>
  h c L σ H S D (fun σ2 H2 e2 S2 f2 z => n σ2 H2 e2 S2 f2 (h1 _ z)) (fun σ2 H2 e2 S2 f2 z => b σ2 H2 e2 S2 f2 (h3 _ z)) (fun σ2 H2 e2 S2 f2 z => k σ2 H2 e2 S2 f2 (h4 _ z)) (fun x d H' p => r x d H' (h2 _ p)) fun x d σ2 H2 e2 p => re x d σ2 H2 e2 (h5 _ _ p)
theorem wd_cut {Mid : List Sl → Prop} (h : Wd g env t { E with nx := Mid }) (k : ∀ e, Mid e → Wd g e u E) : Wd g env (tSeq t u) E := wd_seq (wd_imp h k (fun _ z => z) (fun _ z => z) fun _ z => z)
/-- a slot is set to a tree -/
theorem oa_to {i j : Nat} {y : Option V} {e : Dt} {a : Addr} (n : j ≠ i) (h : Oa σ j e a) : Oa (σ.set i y) j e a := h.imp (fun h => by rw [List.getElem?_set, if_neg (Ne.symm n)]; exact h) id
theorem ow_set_v {i : Nat} {y : V} {a : Addr} (h : Ow (σ.set i (some y)) (env.set i (.v d)) a) : Ow σ env a := by
  obtain ⟨j, e, h1, h2⟩ := h
  rcases Sl.get_set h1 with ⟨_, z⟩ | ⟨n, z⟩
  · cases z
  · exact ⟨j, e, z, oa_ne n h2⟩
theorem av_set_v {i : Nat} {y : V} (a : Addr) (h : Av c (σ.set i (some y)) (env.set i (.v d)) a) : Av c σ env a := by
  rcases h with h | h
  · exact .inl h
  · exact .inr (ow_set_v h)
theorem mv_set_v {i : Nat} {y : V} (a : Addr) (h : Mv c (σ.set i (some y)) (env.set i (.v d)) a) : Mv c σ env a := h.imp id ow_set_v
theorem Sv.set_v {i : Nat} (S : Sv g.K c H σ env) (r : Rv c.so (Av c σ env) H x d) : Sv g.K c H (σ.set i (some x)) (env.set i (.v d)) := by
  refine ⟨S.toHb, by rw [List.length_set, List.length_set, S.len], fun j k e f b z1 z2 z3 z4 => ?_, fun j e b z1 z2 => ?_, fun j r z => ?_, fun j e z => ?_, fun j e z => ?_⟩
  · rcases Sl.get_set z1 with ⟨_, z⟩ | ⟨n1, z1⟩
    · cases z
    · rcases Sl.get_set z2 with ⟨_, z⟩ | ⟨n2, z2⟩
      · cases z
      · exact S.uniq j k e f b z1 z2 (oa_ne n1 z3) (oa_ne n2 z4)
  · rcases Sl.get_set z1 with ⟨_, z⟩ | ⟨_, z1⟩
    · cases z
    · exact S.reg j e b z1 z2
  · rcases Sl.get_set z with ⟨_, z⟩ | ⟨n, z⟩
    · cases z
    · exact ⟨by rw [List.getElem?_set, if_neg (Ne.symm n)]; exact (S.fzs j r z).1, (S.fzs j r z).2⟩
  · rcases Sl.get_set z with ⟨ej, z'⟩ | ⟨n, z⟩
    · cases z'
      subst ej
      have hj : j < σ.length := by
        have := (List.getElem?_eq_some_iff.mp z).1
        rw [List.length_set] at this
        rw [S.len]
        exact this
      exact ⟨x, by rw [List.getElem?_set_self hj], r.mono av_set_v⟩
    · obtain ⟨y, k1, k2⟩ := S.tree j e z
      exact ⟨y, by rw [List.getElem?_set, if_neg (Ne.symm n)]; exact k1, k2.mono av_set_v⟩
  · rcases Sl.get_set z with ⟨_, z⟩ | ⟨n, z⟩
    · cases z
    · obtain ⟨y, k1, k2, k3, k4⟩ := S.own j e z
      exact ⟨y, by rw [List.getElem?_set, if_neg (Ne.symm n)]; exact k1, k2, k3, k4.mono av_set_v⟩
theorem wd_asg {i : Nat} (h : Et g env te fun d e => E.nx (e.set i (.v d))) : Wd g env (tAsg te (gName i)) E := fun c L σ H S D n b k r re =>
  h c L σ H S _ fun x d e1 H1 p S1 l1 k1 r1 => n _ H1 _ (S1.set_v r1) ((fw_e l1 k1).trans ⟨Ko.refl, fun a z => .inl (ow_set_v z)⟩) p
/-- a slot is set to a fresh list or dict of the def's own -/
theorem ow_set_o {i : Nat} {p a : Addr} (hr : ∀ b, ¬ d.rg b) (h : Ow (σ.set i (some (.ref p))) (env.set i (.own d)) a) : Ow σ env a ∨ a = p := by
  obtain ⟨j, e, h1, h2⟩ := h
  rcases Sl.get_set h1 with ⟨ej, z⟩ | ⟨n, z⟩
  · subst ej
    cases z
    rcases h2 with h2 | h2
    · rw [List.getElem?_set] at h2
      split at h2
      · split at h2
        · cases h2; exact .inr rfl
        · cases h2
      · rename_i q; exact absurd rfl q
    · exact absurd h2 (hr a)
  · exact .inl ⟨j, e, z, oa_ne n h2⟩
theorem av_set_o {i : Nat} {p : Addr} (hr : ∀ b, ¬ d.rg b) (a : Addr) (h : Av c (σ.set i (some (.ref p))) (env.set i (.own d)) a) : Av (c.add p) σ env a := by
  rcases h with h | h
  · exact .inl (.inl h)
  · rcases ow_set_o hr h with h | h
    · exact .inr h
    · exact .inl (.inr h)
theorem Sv.set_o {i : Nat} {p : Addr} (S : Sv g.K (c.add p) H σ env) (hs : SO c) (hp : ¬ c.O p) (hB : c.B p = none) (o : Ol c.so (Av (c.add p) σ env) H p d) : Sv g.K c H (σ.set i (some (.ref p))) (env.set i (.own d)) := by
  have nop : ∀ j e, env[j]? = some (Sl.own e) → ¬ Oa σ j e p := fun j e h z => (S.oa h z).2.1 (.inr rfl)
  have hd : ∀ {j b}, Oa (σ.set i (some (.ref p))) j d b → j = i → b = p := fun {j b} z e => by
    subst e
    rcases z with z | z
    · rw [List.getElem?_set] at z
      simp only [if_true] at z
      split at z
      · cases z; rfl
      · cases z
    · exact absurd z (o.rgn b)
  refine ⟨S.toHb.less hs, by rw [List.length_set, List.length_set, S.len], fun j k e f b z1 z2 z3 z4 => ?_, fun j e b z1 z2 => ?_, fun j r z => ?_, fun j e z => ?_, fun j e z => ?_⟩
  · rcases Sl.get_set z1 with ⟨n1, e1⟩ | ⟨n1, w1⟩
    · rcases Sl.get_set z2 with ⟨n2, _⟩ | ⟨n2, w2⟩
      · rw [n1, n2]
      · cases e1
        rw [hd z3 n1] at z4
        exact absurd (oa_ne n2 z4) (nop k f w2)
    · rcases Sl.get_set z2 with ⟨n2, e2⟩ | ⟨n2, w2⟩
      · cases e2
        rw [hd z4 n2] at z3
        exact absurd (oa_ne n1 z3) (nop j e w1)
      · exact S.uniq j k e f b w1 w2 (oa_ne n1 z3) (oa_ne n2 z4)
  · rcases Sl.get_set z1 with ⟨_, z⟩ | ⟨_, z1⟩
    · cases z; exact absurd z2 (o.rgn b)
    · exact ⟨(S.reg j e b z1 z2).1, fun z => (S.reg j e b z1 z2).2 (.inl z)⟩
  · rcases Sl.get_set z with ⟨_, z⟩ | ⟨n, z⟩
    · cases z
    · exact ⟨by rw [List.getElem?_set, if_neg (Ne.symm n)]; exact (S.fzs j r z).1, (S.fzs j r z).2.less fun b q e => pl_some (r.pl _ _ _ _ (S.fzs j r z).2.inv b q) (by rw [e]; exact hB)⟩
  · rcases Sl.get_set z with ⟨_, z⟩ | ⟨n, z⟩
    · cases z
    · obtain ⟨y, k1, k2⟩ := S.tree j e z
      exact ⟨y, by rw [List.getElem?_set, if_neg (Ne.symm n)]; exact k1, k2.mono (av_set_o o.rgn)⟩
  · rcases Sl.get_set z with ⟨ej, z'⟩ | ⟨n, z⟩
    · cases z'
      subst ej
      have hj : j < σ.length := by
        have := (List.getElem?_eq_some_iff.mp z).1
        rw [List.length_set] at this
        rw [S.len]
        exact this
      exact ⟨p, by rw [List.getElem?_set_self hj], hB, hp, (o.mono (av_set_o o.rgn)).oo⟩
    · obtain ⟨y, k1, k2, k3, k4⟩ := S.own j e z
      exact ⟨y, by rw [List.getElem?_set, if_neg (Ne.symm n)]; exact k1, k2, fun q => k3 (.inl q), k4.mono (av_set_o o.rgn)⟩
theorem wd_asgO {i : Nat} (h : Ef g env te fun d e => E.nx (e.set i (.own d))) : Wd g env (tAsg te (gName i)) E := fun c L σ H S D n b k r re =>
  h c L σ H S _ fun p d e1 H1 q S1 l1 k1 hp o => n _ H1 _ (S1.set_o S.sO (fun z => S.dom p z hp) (base_none S hp) o) ⟨k1, fun a z => by
    rcases ow_set_o o.rgn z with z | z
    · exact (fw_e l1 k1).2 a z
    · exact .inr (by rw [z]; exact hp)⟩ q
/-- an own list or dict is changed -/
theorem oa_put {d e : Dt} {i : Nat} {a : Addr} (hr : ∀ b, e.rg b ↔ d.rg b) : Oa σ i e a ↔ Oa σ i d a := or_congr Iff.rfl (hr a)
theorem ow_put {i : Nat} {e : Dt} {a : Addr} (h : env[i]? = some (Sl.own d)) (hr : ∀ b, e.rg b ↔ d.rg b := by exact fun _ => Iff.rfl) : Ow σ (env.set i (.own e)) a ↔ Ow σ env a := by
  constructor
  · rintro ⟨j, f, h1, h2⟩
    rcases Sl.get_set h1 with ⟨ej, q⟩ | ⟨_, z⟩
    · cases q
      exact ⟨j, d, by rw [ej]; exact h, (oa_put hr).mp h2⟩
    · exact ⟨j, f, z, h2⟩
  · rintro ⟨j, f, h1, h2⟩
    by_cases ej : i = j
    · subst ej
      rw [h] at h1
      cases h1
      exact ⟨i, e, by rw [List.getElem?_set_self (List.getElem?_eq_some_iff.mp h).1], (oa_put hr).mpr h2⟩
    · exact ⟨j, f, by rw [List.getElem?_set, if_neg ej]; exact h1, h2⟩
theorem av_put {i : Nat} {e : Dt} {a : Addr} (h : env[i]? = some (Sl.own d)) (hr : ∀ b, e.rg b ↔ d.rg b := by exact fun _ => Iff.rfl) : Av c σ (env.set i (.own e)) a ↔ Av c σ env a := or_congr Iff.rfl (ow_put h hr)
theorem Sv.putR {i : Nat} {p a0 : Addr} {o : HO} {e : Dt} (S : Sv g.K c H σ env) (h : env[i]? = some (Sl.own d)) (hp : Oa σ i d p) (ha : σ[i]? = some (some (V.ref a0))) (hr : ∀ b, e.rg b ↔ d.rg b) (k : Oo c.so (Av c σ env) (upd H p o) a0 e) : Sv g.K c (upd H p o) σ (env.set i (.own e)) := by
  obtain ⟨y, h1, h2, h3, h4⟩ := S.own i d h
  rw [ha] at h1
  cases h1
  obtain ⟨hB, hO, hP⟩ := S.oa h hp
  have ko : Ko (Av c σ env) c.O H (upd H p o) := Ko.mut (.inr ⟨i, d, h, hp⟩)
  have av : ∀ a, Av c σ (env.set i (.own e)) a → Av c σ env a := fun a z => (av_put h hr).mp z
  have back : ∀ {j e' b}, (env.set i (.own e))[j]? = some (Sl.own e') → Oa σ j e' b → ∃ d1, env[j]? = some (Sl.own d1) ∧ Oa σ j d1 b := fun {j e' b} z w => by
    rcases Sl.get_set z with ⟨ej, q⟩ | ⟨_, z⟩
    · cases q
      exact ⟨d, by rw [ej]; exact h, (oa_put hr).mp w⟩
    · exact ⟨_, z, w⟩
  refine ⟨⟨⟨fun a u n z => ?_, fun a z => upd_some (S.base.2 a z)⟩, S.lkb, S.sO, fun a z => upd_some (S.dom a z), S.stt.put (fun s hs => ⟨fun z => hO (by rw [z]; exact (S.sO s (.inl hs)).1), fun z => hO (by rw [z]; exact (S.sO s (.inl hs)).2 s hs)⟩) hP⟩, by rw [S.len, List.length_set], fun j k e' f b z1 z2 z3 z4 => ?_, fun j e' b z1 z2 => ?_, fun j r z => ?_, fun j e' z => ?_, fun j e' z => ?_⟩
  · have ne : a ≠ p := fun q => by rw [q, hB] at z; cases z
    rw [upd_ne ne]
    exact S.base.1 a u n z
  · obtain ⟨d1, w1, q1⟩ := back z1 z3
    obtain ⟨d2, w2, q2⟩ := back z2 z4
    exact S.uniq j k d1 d2 b w1 w2 q1 q2
  · rcases Sl.get_set z1 with ⟨ej, q⟩ | ⟨_, z⟩
    · cases q
      exact S.reg i d b h ((hr b).mp z2)
    · exact S.reg j e' b z z2
  · rcases Sl.get_set z with ⟨_, z⟩ | ⟨_, z⟩
    · cases z
    · exact S.fzs j r z
  · rcases Sl.get_set z with ⟨_, z⟩ | ⟨_, z⟩
    · cases z
    · obtain ⟨y, k1, k2⟩ := S.tree j e' z
      exact ⟨y, k1, (k2.keep ko).mono av⟩
  · rcases Sl.get_set z with ⟨ej, z⟩ | ⟨n, z⟩
    · cases z
      subst ej
      exact ⟨a0, ha, h2, h3, k.mono av⟩
    · obtain ⟨y, k1, k2, k3, k4⟩ := S.own j e' z
      exact ⟨y, k1, k2, k3, (k4.keepR ko fun b hb => upd_ne fun q => n (S.uniq j i e' d b z h (hb.elim (fun e => .inl (by rw [e]; exact k1)) .inr) (by rw [q]; exact hp))).mono av⟩
theorem Sv.put {i : Nat} {p : Addr} {o : HO} {e : Dt} (S : Sv g.K c H σ env) (h : env[i]? = some (Sl.own d)) (hp : σ[i]? = some (some (V.ref p))) (k : Ol c.so (Av c σ env) (upd H p o) p e) (hr : ∀ b, e.rg b ↔ d.rg b := by exact fun _ => Iff.rfl) : Sv g.K c (upd H p o) σ (env.set i (.own e)) :=
  S.putR h (.inl hp) hp hr k.oo
theorem fw_putR {i : Nat} {p : Addr} {o : HO} {e : Dt} (h : env[i]? = some (Sl.own d)) (hp : Oa σ i d p) (hr : ∀ b, e.rg b ↔ d.rg b) : Fw c σ env H σ (env.set i (.own e)) (upd H p o) :=
  ⟨Ko.mut (.inr ⟨i, d, h, hp⟩), fun a z => .inl ((ow_put h hr).mp z)⟩
theorem fw_put {i : Nat} {p : Addr} {o : HO} {e : Dt} (h : env[i]? = some (Sl.own d)) (hp : σ[i]? = some (some (V.ref p))) (hr : ∀ b, e.rg b ↔ d.rg b := by exact fun _ => Iff.rfl) : Fw c σ env H σ (env.set i (.own e)) (upd H p o) := fw_putR h (.inl hp) hr
/-- found.append(e) -/
theorem wd_app {i : Nat} {ds0 : List Dt} (h0 : env[i]? = some (Sl.own (.lst ds0))) (h : Et g env te fun d e => ∃ ds, e[i]? = some (Sl.own (.lst ds)) ∧ ds.length < Zz ∧ E.nx (e.set i (.own (.lst (ds ++ [d]))))) :
    Wd g env (tDrop (tBM g.K "list" rAppend (tVar i) (tCons te tNil))) E := fun c L σ H S D n b k r re => by
  obtain ⟨p, h1, _, _, xs, h4, _⟩ := S.own i _ h0
  refine ⟨.ref p, h1, .inl ⟨rfl, xs, sq_of h4⟩, h c L σ H S _ fun x d e1 H1 ⟨ds, hd, hl, q⟩ S1 l1 k1 r1 => ?_⟩
  obtain ⟨p', w1, _, _, ys, w4, w5, w6, w7⟩ := S1.own i _ hd
  rw [h1] at w1
  cases w1
  have hp : Av c σ e1 p := .inr ⟨i, _, hd, .inl h1⟩
  refine ⟨p, ys, x, rfl, rfl, w4, Nat.lt_of_lt_of_le (by rw [w5]; exact hl) (by decide), n σ _ _ (S1.put (e := .lst (ds ++ [d])) hd h1 ⟨ys ++ [x], upd_same, by simp [w5], by rw [List.length_append]; exact hl, fun j y t z1 z2 => ?_⟩) ((fw_e l1 k1).trans (fw_put hd h1)) q⟩
  rw [List.getElem?_append] at z1 z2
  by_cases hj : j < ys.length
  · rw [if_pos hj] at z1
    rw [if_pos (by rw [← w5]; exact hj)] at z2
    exact (w7 j y t z1 z2).keep (A := c.O) (Ko.mut hp)
  · rw [if_neg hj] at z1
    rw [if_neg (by rw [← w5]; exact hj)] at z2
    rw [← w5] at z2
    cases hq : j - ys.length with
    | zero => rw [hq] at z1 z2; cases z1; cases z2; exact r1.keep (A := c.O) (Ko.mut hp)
    | succ m => rw [hq] at z1; simp at z1
/-! ### what is walked -/
structure Wk (so : Option Addr) (A : Addr → Prop) (J : It) (ds : List Dt) (H1 : Hp) : Prop where
  len : ds.length ≤ Zz
  go : ∀ i H', i < ds.length → Ko A A H1 H' → J.go i H'
  stop : ∀ H', Ko A A H1 H' → J.stop ds.length H'
  yld : ∀ (O' : Addr → Prop) i H' x H'', i < ds.length → Ko A A H1 H' → (∀ a, O' a → A a ∨ H1 a = none) → (∀ a, O' a → H' a ≠ none) → J.yld i H' x H'' → Ex H' H'' ∧ ∃ d, ds[i]? = some d ∧ Rv so O' H'' x d
def Ei (g : Gx) (env : List Sl) (wi : TI) (P : List Dt → List Sl → Prop) : Prop := ∀ c, Lk g c → ∀ σ H, Sv g.K c H σ env → ∀ R : It → Hp → Prop,
  (∀ J ds e1 H1, P ds e1 → Sv g.K c H1 σ e1 → Le e1 env → Ko (Mv c σ env) (An c σ env) H H1 → Wk c.so (Av c σ e1) J ds H1 → R J H1) → wi σ H R
/-- a target takes a tree -/
def Tg (g : Gx) (env : List Sl) (gt : TG) (d : Dt) (P : List Sl → Prop) : Prop := ∀ c σ H x, Sv g.K c H σ env → Rv c.so (Av c σ env) H x d → ∀ Q : L2.St → Hp → Prop, (∀ σ' env', Sv g.K c H σ' env' → Fw c σ env H σ' env' H → P env' → Q σ' H) → gt x σ H Q
theorem tg_name {i : Nat} {P : List Sl → Prop} (h : P (env.set i (.v d))) : Tg g env (gName i) d P := fun c σ H x S r Q q => q _ _ (S.set_v r) ⟨Ko.refl, fun a z => .inl (ow_set_v z)⟩ h
theorem wd_for {wi : TI} {gt : TG} (h : Ei g env wi fun ds e1 => ∃ I : Nat → List Sl → Prop, I 0 e1 ∧ (∀ i d e, ds[i]? = some d → I i e → Tg g e gt d fun e2 => Wd g e2 tu { nx := I (i + 1), ct := I (i + 1), bk := E.nx, rt := E.rt, re := E.re }) ∧ ∀ e, I ds.length e → E.nx e) :
    Wd g env (tFor wi gt tu) E := fun c L σ H S D n b k r re => by
  refine h c L σ H S _ fun J ds e1 H1 ⟨I, i0, hs, hd⟩ S1 l1 k1 w => ?_
  refine ⟨fun i m σ' H' => m = ds.length - i ∧ i ≤ ds.length ∧ ∃ env', Sv g.K c H' σ' env' ∧ Fw c σ e1 H1 σ' env' H' ∧ I i env', ⟨_, rfl, Nat.zero_le _, e1, S1, Fw.refl, i0⟩, ?_⟩
  rintro i m σ' H' ⟨rfl, hi, env', S', f', hI⟩
  by_cases hlt : i < ds.length
  · refine .inr ⟨w.go i H' hlt (f'.1.mono (Mv.av S.sO) fun _ z => .inr z), fun σ2 H2 => ∃ env2, Sv g.K c H2 σ2 env2 ∧ Fw c σ e1 H1 σ2 env2 H2 ∧ I (i + 1) env2, fun σ2 H2 z => ⟨ds.length - (i + 1), by omega, rfl, hlt, z⟩, fun x H'' y => ?_⟩
    obtain ⟨e, d, ed, rd'⟩ := w.yld (Av c σ' env') i H' x H'' hlt (f'.1.mono (Mv.av S.sO) fun _ z => .inr z) (fun a z => by
      rcases z with z | z
      · exact .inl (.inl z)
      · exact (f'.2 a z).imp .inr id) S'.lk_av y
    have S'' := S'.ex e
    have f'' : Fw c σ e1 H1 σ' env' H'' := f'.trans ⟨Ko.ex e, fun a z => .inl z⟩
    refine hs i d env' ed hI c σ' H'' x S'' rd' _ fun σ2 e2 S2 f2 wd => ?_
    refine wd c L σ2 H'' S2 _ (fun σ3 H3 e3 S3 f3 z => ⟨e3, S3, (f''.trans f2).trans f3, z⟩) (fun σ3 H3 e3 S3 f3 z => n σ3 H3 e3 S3 ((fw_e l1 k1).trans ((f''.trans f2).trans f3)) z) (fun σ3 H3 e3 S3 f3 z => ⟨e3, S3, (f''.trans f2).trans f3, z⟩) (fun x d H' p hb kf rv => r x d H' p hb (((fw_e l1 k1).trans (f''.trans f2)).trans (σ2 := σ2) (e2 := e2) ⟨kf, fun a z => .inl z⟩).1 rv) fun x d σ3 H3 e3 p S3 f3 rv => re x d σ3 H3 e3 p S3 ((fw_e l1 k1).trans ((f''.trans f2).trans f3)) rv
  · have : i = ds.length := by omega
    subst this
    exact .inl ⟨w.stop H' (f'.1.mono (Mv.av S.sO) fun _ z => .inr z), n σ' H' env' S' ((fw_e l1 k1).trans f') (hd _ hI)⟩
end
end Wv
/-! Calls, fields, dicts over trees. -/
namespace Wv
open PySem L2 Evl
/-! ### tables of trees -/
def dlk (kvs : List (Key × Dt)) (k : Key) : Option Dt := (kvs.find? fun kv => decide (kv.1 = k)).map (·.2)
def dpt (kvs : List (Key × Dt)) (k : Key) (v : Dt) : List (Key × Dt) :=
  if (kvs.any fun kv => decide (kv.1 = k)) = true then kvs.map (fun kv => if kv.1 = k then (kv.1, v) else kv) else kvs ++ [(k, v)]
section
variable {α : Type} [DecidableEq α] {so : Option Addr} {O : Addr → Prop} {H : Hp}
/-- the same keys, the values trees -/
def Tb (so : Option Addr) (O : Addr → Prop) (H : Hp) (xs : List (α × V)) (ds : List (α × Dt)) : Prop := xs.map (·.1) = ds.map (·.1) ∧ ∀ (i : Nat) k x k' d, xs[i]? = some (k, x) → ds[i]? = some (k', d) → Rv so O H x d
theorem Tb.tail {p : α × V} {q : α × Dt} {xs : List (α × V)} {ds : List (α × Dt)} (h : Tb so O H (p :: xs) (q :: ds)) : p.1 = q.1 ∧ Rv so O H p.2 q.2 ∧ Tb so O H xs ds := by
  obtain ⟨h1, h2⟩ := h
  simp only [List.map_cons, List.cons.injEq] at h1
  exact ⟨h1.1, h2 0 p.1 p.2 q.1 q.2 rfl rfl, h1.2, fun i k x k' d e1 e2 => h2 (i + 1) k x k' d e1 e2⟩
theorem Tb.cons {k : α} {x : V} {d : Dt} {xs : List (α × V)} {ds : List (α × Dt)} (r : Rv so O H x d) (h : Tb so O H xs ds) : Tb so O H ((k, x) :: xs) ((k, d) :: ds) := ⟨by simp [h.1], fun i k1 y k2 e e1 e2 => by
  cases i with
  | zero => cases e1; cases e2; exact r
  | succ i => exact h.2 i _ _ _ _ e1 e2⟩
theorem Tb.nil : Tb so O H ([] : List (α × V)) [] := ⟨rfl, fun i k x k' d h => by simp at h⟩
theorem Tb.len {xs : List (α × V)} {ds : List (α × Dt)} (h : Tb so O H xs ds) : xs.length = ds.length := by
  have := congrArg List.length h.1
  simpa using this
theorem Tb.keep {H' : Hp} {A : Addr → Prop} {xs : List (α × V)} {ds : List (α × Dt)} (h : Tb so O H xs ds) (k : Ko O A H H') : Tb so O H' xs ds := ⟨h.1, fun i a x b d e1 e2 => (h.2 i a x b d e1 e2).keep k⟩
theorem Tb.mono {O' : Addr → Prop} {xs : List (α × V)} {ds : List (α × Dt)} (h : Tb so O H xs ds) (k : ∀ a, O' a → O a) : Tb so O' H xs ds := ⟨h.1, fun i a x b d e1 e2 => (h.2 i a x b d e1 e2).mono k⟩
theorem Tb.lookup {f : Str} : ∀ {xs : List (Str × V)} {ds : List (Str × Dt)} {t : Dt}, Tb so O H xs ds → ds.lookup f = some t → ∃ x, xs.lookup f = some x ∧ Rv so O H x t
  | [], [], _, _, e => by simp at e
  | [], _ :: _, _, h, _ => by have := h.len; simp at this
  | _ :: _, [], _, h, _ => by have := h.len; simp at this
  | p :: xs, q :: ds, t, h, e => by
    obtain ⟨h1, h2, h3⟩ := h.tail
    obtain ⟨a, x⟩ := p
    obtain ⟨b, d⟩ := q
    simp only at h1
    subst h1
    rw [List.lookup_cons] at e ⊢
    cases hf : f == a with
    | true => rw [hf] at e; cases e; exact ⟨x, rfl, h2⟩
    | false => rw [hf] at e; exact Tb.lookup h3 e
theorem Tb.lookup_none {f : Str} : ∀ {xs : List (Str × V)} {ds : List (Str × Dt)}, Tb so O H xs ds → ds.lookup f = none → xs.lookup f = none
  | [], _, _, _ => rfl
  | _ :: _, [], h, _ => by have := h.len; simp at this
  | p :: xs, q :: ds, h, e => by
    obtain ⟨h1, h2, h3⟩ := h.tail
    obtain ⟨a, x⟩ := p
    obtain ⟨b, d⟩ := q
    simp only at h1
    subst h1
    rw [List.lookup_cons] at e ⊢
    cases hf : f == a with
    | true => rw [hf] at e; cases e
    | false => rw [hf] at e; exact Tb.lookup_none h3 e
theorem dlk_pos {p : Key × Dt} {r : List (Key × Dt)} {k : Key} (e : p.1 = k) : dlk (p :: r) k = some p.2 := by simp [dlk, List.find?_cons, e]
theorem dlk_neg {p : Key × Dt} {r : List (Key × Dt)} {k : Key} (e : ¬ p.1 = k) : dlk (p :: r) k = dlk r k := by simp [dlk, List.find?_cons, e]
theorem Tb.val {k : Key} : ∀ {xs : List (Key × V)} {ds : List (Key × Dt)}, Tb so O H xs ds → match dlk ds k with
    | some t => ∃ x, valV xs k = some x ∧ Rv so O H x t
    | none => valV xs k = none
  | [], [], _ => rfl
  | [], _ :: _, h => by have := h.len; simp at this
  | _ :: _, [], h => by have := h.len; simp at this
  | p :: xs, q :: ds, h => by
    obtain ⟨h1, h2, h3⟩ := h.tail
    by_cases e : q.1 = k
    · rw [dlk_pos e]
      exact ⟨p.2, valV_pos (h1.trans e), h2⟩
    · rw [dlk_neg e, valV_neg (fun z => e (h1.symm.trans z))]
      exact Tb.val h3
theorem Tb.any {k : Key} : ∀ {xs : List (Key × V)} {ds : List (Key × Dt)}, Tb so O H xs ds → (xs.any fun kv => decide (kv.1 = k)) = ds.any fun kv => decide (kv.1 = k)
  | [], [], _ => rfl
  | [], _ :: _, h => by have := h.len; simp at this
  | _ :: _, [], h => by have := h.len; simp at this
  | p :: xs, q :: ds, h => by
    obtain ⟨h1, h2, h3⟩ := h.tail
    rw [List.any_cons, List.any_cons, h1, Tb.any h3]
theorem Tb.app {xs ys : List (α × V)} {ds es : List (α × Dt)} (h : Tb so O H xs ds) (k : Tb so O H ys es) : Tb so O H (xs ++ ys) (ds ++ es) := by
  induction xs generalizing ds with
  | nil =>
    cases ds with
    | nil => exact k
    | cons => have := h.len; simp at this
  | cons p xs ih =>
    cases ds with
    | nil => have := h.len; simp at this
    | cons q ds =>
      obtain ⟨h1, h2, h3⟩ := h.tail
      obtain ⟨a, x⟩ := p
      obtain ⟨b, d⟩ := q
      simp only at h1
      subst h1
      exact Tb.cons h2 (ih h3)
theorem Tb.map {k : Key} {x : V} {d : Dt} (r : Rv so O H x d) : ∀ {xs : List (Key × V)} {ds : List (Key × Dt)}, Tb so O H xs ds → Tb so O H (xs.map fun kv => if kv.1 = k then (kv.1, x) else kv) (ds.map fun kv => if kv.1 = k then (kv.1, d) else kv)
  | [], [], _ => Tb.nil
  | [], _ :: _, h => by have := h.len; simp at this
  | _ :: _, [], h => by have := h.len; simp at this
  | p :: xs, q :: ds, h => by
    obtain ⟨h1, h2, h3⟩ := h.tail
    obtain ⟨a, y⟩ := p
    obtain ⟨b, e⟩ := q
    simp only at h1
    subst h1
    rw [List.map_cons, List.map_cons]
    by_cases z : a = k
    · simp only [z, if_true]
      exact Tb.cons r (Tb.map r h3)
    · simp only [z, if_false]
      exact Tb.cons h2 (Tb.map r h3)
theorem Tb.put {k : Key} {x : V} {d : Dt} (r : Rv so O H x d) {xs : List (Key × V)} {ds : List (Key × Dt)} (h : Tb so O H xs ds) : Tb so O H (putK xs k x) (dpt ds k d) := by
  unfold putK dpt
  rw [h.any]
  split
  · exact h.map r
  · exact h.app (Tb.cons r Tb.nil)
theorem dpt_len (ds : List (Key × Dt)) (k : Key) (d : Dt) : (dpt ds k d).length ≤ ds.length + 1 := by
  unfold dpt
  split
  · rw [List.length_map]; omega
  · rw [List.length_append]; exact Nat.le_refl _
end
section
variable {g : Gx} {c : Cc} {H H1 H2 H' : Hp} {σ : L2.St} {env e1 : List Sl} {ta tb te td ty tv tx : TE} {tt : TT} {t u tu tw : TS} {P : Dt → List Sl → Prop} {x : V} {d : Dt} {E : De}
/-! ### calls -/
abbrev Rd3 := List Dt → (Dt → Prop) → (Addr → List (Str × Dt) → Prop) → Prop
/-- a promise told of trees -/
def spW (K : PySem.W.Frag) (lk : Bool) (R : Rd3) : Sp := fun vs H Q E => ∃ (so : Option Addr) (cc : Ct) (O : Addr → Prop) (ds : List Dt) (P : Dt → Prop) (xe : Addr → List (Str × Dt) → Prop),
  Hb K ⟨H, so, cc, O, lk, lk⟩ H ∧ Rvs so O H vs ds ∧ R ds P xe ∧ (∀ x d H', P d → Hb K ⟨H, so, cc, O, lk, lk⟩ H' → Rv so O H' x d → Q x H') ∧ Lk ⟨K, E, xe, lk, []⟩ ⟨H, so, cc, O, lk, lk⟩
/-- a callee may lock only where its caller may -/
def lkle (lk lk' : Bool) : Prop := lk = true → lk' = true
theorem Hb.av {lk : Bool} (S : Sv g.K c H σ env) : Hb g.K ⟨H, c.so, c.cc, Av c σ env, lk, lk⟩ H :=
  ⟨Ko.refl, id, fun a h => ⟨.inl (S.sO a h).1, fun s z => .inl ((S.sO a h).2 s z)⟩, S.lk_av, S.stt⟩
/-- behind a call -/
theorem Sv.call {lk : Bool} (S : Sv g.K c H σ env) (hk : lkle lk c.lk) (b : Hb g.K ⟨H, c.so, c.cc, Av c σ env, lk, lk⟩ H') : Sv g.K c H' σ env ∧ Ko (Mv c σ env) (An c σ env) H H' := by
  have k : Ko (fun a => Chg c.so c.cc a) (fun a => lk = false ∨ Av c σ env a) H H' := b.base
  have kk : ∀ a, An c σ env a → lk = false ∨ Av c σ env a := fun a z => by
    cases lk with
    | false => exact .inl rfl
    | true => exact .inr (z.elim (fun z => by rw [hk rfl] at z; cases z) id)
  have ka : Ko (Mv c σ env) (An c σ env) H H' := k.mono (fun a z => .inl z) kk
  refine ⟨⟨⟨S.base.trans (k.mono (fun a z => z) fun a z => ?_), S.lkb, S.sO, fun a z => k.2 a (S.dom a z), b.stt⟩, S.len, S.uniq, S.reg, S.fzs, fun i d z => ?_, fun i d z => ?_⟩, ka⟩
  · exact z.elim (fun z => kk a (.inl (by
      cases e : c.lk with
      | false => rfl
      | true => rw [S.lkb e] at z; cases z))) fun z => .inr (.inl z)
  · obtain ⟨y, z1, z2⟩ := S.tree i d z
    exact ⟨y, z1, S.kp z2 ka⟩
  · obtain ⟨y, z1, z2, z3, z4⟩ := S.own i d z
    exact ⟨y, z1, z2, z3, z4.keepR (ka.mono (Mv.av S.sO) fun _ z => z) (S.sameR k (fun a q n => n (S.sO a q).1) (fun a q => .inr (.inr q)) z z1)⟩
/-- what leaves a callee leaves the caller -/
theorem Lk.call {lk : Bool} (L : Lk g c) (S : Sv g.K c H σ env) (hk : lkle lk g.lk) : Lk ⟨g.K, g.E, g.xe, lk, []⟩ ⟨H, c.so, c.cc, Av c σ env, lk, lk⟩ := ⟨rfl, fun C fs hx H' d xs hb h1 h2 h3 =>
  L.2.1 C fs hx H' d xs (S.call (by rw [← L.1]; exact hk) hb).1.toHb h1 h2 fun i k x k' t e1 e2 => (h3 i k x k' t e1 e2).mono fun a z => .inl z, .inl rfl⟩
theorem Lk.none {K : PySem.W.Frag} {E : XK} {lk : Bool} {B : Hp} {so : Option Addr} {cc : Ct} {O : Addr → Prop} : Lk ⟨K, E, fun _ _ => False, lk, []⟩ ⟨B, so, cc, O, lk, lk⟩ := ⟨rfl, fun C fs z => z.elim, .inl rfl⟩
theorem et_call0 {R : Rd3} {lk : Bool} {E : XK} {ta : TA} (hlk : lkle lk g.lk) (h : Ea g env ta fun ds e1 => R ds (fun t => P t e1) fun _ _ => False) : Et g env (tCall (spW g.K lk R) [] E ta) P := fun c L σ H S Q q =>
  h c L σ H S _ fun xs ds e1 H1 p S1 l1 k1 r1 => ⟨c.so, c.cc, Av c σ e1, ds, _, _, Hb.av S1, by rw [List.append_nil]; exact r1, p, fun x d H' pd hb r => q x d e1 H' pd (S1.call (by rw [← L.1]; exact hlk) hb).1 l1 (k1.trans ((S1.call (by rw [← L.1]; exact hlk) hb).2.le l1)) r, Lk.none⟩
theorem et_meth0 {R : Rd3} {lk : Bool} {C : Addr} {m : Str} {E : XK} {ta : TA} (hlk : lkle lk g.lk) (h : Et g env te fun d e => ∃ fs, d = .ins C fs ∧ fs.lookup m = none ∧ Ea g e ta fun ds e1 => R (d :: ds) (fun t => P t e1) fun _ _ => False) : Et g env (tMeth C m (spW g.K lk R) [] E te ta) P := fun c L σ H S Q q =>
  h c L σ H S _ fun x d e H1 ⟨fs, e0, hm, p⟩ S1 l1 k1 r1 => by
    subst e0
    cases r1 with
    | ins ho h0 hk he =>
      have tb : Tb c.so (Av c σ e) H1 _ fs := ⟨hk, he⟩
      refine ⟨_, _, _, rfl, h0, tb.lookup_none hm, p c L σ H1 S1 _ fun xs ds e1 H2 p2 S2 l2 k2 r2 => ?_⟩
      refine ⟨c.so, c.cc, Av c σ e1, _, _, _, Hb.av S2, ?_, p2, fun x d H' pd hb r => q x d e1 H' pd (S2.call (by rw [← L.1]; exact hlk) hb).1 (l1.trans l2) ((k1.trans (k2.le l1)).trans ((S2.call (by rw [← L.1]; exact hlk) hb).2.le (l1.trans l2))) r, Lk.none⟩
      rw [List.append_nil]
      exact Rvs.cons ((S1.kp (Rv.ins ho h0 hk he) k2).mono (Av.le l2)) r2
theorem et_fld {C : Addr} {f : Str} (cl : Cls g.K C) (na : NoAttr g.K C f) (h : Et g env ta fun d e => ∃ fs t, d = .ins C fs ∧ fs.lookup f = some t ∧ P t e) : Et g env (tFld g.K ta f) P := fun c L σ H S Q q =>
  h c L σ H S _ fun x d e H1 ⟨fs, t, e0, hf, p⟩ S1 l1 k1 r1 => by
    subst e0
    cases r1 with
    | ins ho h0 hk he =>
      have tb : Tb c.so (Av c σ e) H1 _ fs := ⟨hk, he⟩
      obtain ⟨y, z1, z2⟩ := tb.lookup hf
      exact ⟨_, C, _, _, y, rfl, h0, cl, na, z1, q y t e H1 p S1 l1 k1 z2⟩
/-- a body starts -/
theorem w_start {K : PySem.W.Frag} {R : Rd3} {lk : Bool} {N : List Str} {vs : List V} {Q : VK} {E : XK} (h : spW K lk R vs H Q E) (n : Nat) (hN : N.length = n)
    (hw : ∀ ds P xe, R ds P xe → ds.length ≤ n ∧ Wd ⟨K, E, xe, lk, []⟩ (ds.map Sl.v ++ List.replicate (n - ds.length) .no) t { nx := fun _ => P .non, rt := P }) : t { nx := fun _ H' => Q .non H', rt := Q } (L2.start N vs) H := by
  obtain ⟨so, cc, O, ds, P, xe, hb, rs, hR, hQ, L⟩ := h
  subst hN
  have hl := rs.1
  obtain ⟨hle, hw⟩ := hw ds P xe hR
  have own : ∀ (i : Nat) (d : Dt), (ds.map Sl.v ++ List.replicate (N.length - ds.length) Sl.no)[i]? ≠ some (Sl.own d) := fun i d z => by
    rw [List.getElem?_append] at z
    split at z
    · rw [List.getElem?_map] at z
      cases e : ds[i]? with
      | none => rw [e] at z; cases z
      | some y => rw [e] at z; cases z
    · rw [List.getElem?_replicate] at z
      split at z <;> cases z
  have nfz : ∀ (i : Nat) (r : Reg), (ds.map Sl.v ++ List.replicate (N.length - ds.length) Sl.no)[i]? ≠ some (Sl.fz r) := fun i d z => by
    rw [List.getElem?_append] at z
    split at z
    · rw [List.getElem?_map] at z
      cases e : ds[i]? with
      | none => rw [e] at z; cases z
      | some y => rw [e] at z; cases z
    · rw [List.getElem?_replicate] at z
      split at z <;> cases z
  have noav : ∀ a, Av ⟨H, so, cc, O, lk, lk⟩ (L2.start N vs) (ds.map Sl.v ++ List.replicate (N.length - ds.length) .no) a → O a := fun a z => by
    rcases z with z | ⟨i, d, z, _⟩
    · exact z
    · exact absurd z (own i d)
  refine hw ⟨H, so, cc, O, lk, lk⟩ L (L2.start N vs) H ⟨hb, ?_, fun i j d e a z => absurd z (own i d), fun i d b z => absurd z (own i d), fun i d z => absurd z (nfz i d), fun i d z => ?_, fun i d z => absurd z (own i d)⟩ _ (fun σ' H' e' S' _ p => hQ .non .non H' p S'.toHb .non) (fun _ _ _ _ _ z => z.elim) (fun _ _ _ _ _ z => z.elim) (fun x d H' p hb _ r => hQ x d H' p hb r) fun _ _ _ _ _ z => z.elim
  · unfold L2.start
    simp [hl]
  · rw [List.getElem?_append] at z
    split at z
    · rename_i hi
      rw [List.getElem?_map] at z
      cases e : ds[i]? with
      | none => rw [e] at z; cases z
      | some y =>
        rw [e] at z
        cases z
        have hi' : i < vs.length := by rw [hl]; simpa using hi
        refine ⟨vs[i], ?_, (rs.2 i vs[i] d (by simp [hi']) e).mono noav⟩
        unfold L2.start
        rw [List.getElem?_append_left (by simpa using hi'), List.getElem?_map]
        simp [hi']
    · rw [List.getElem?_replicate] at z
      split at z <;> cases z
end
end Wv
/-! Dicts, loops, comprehensions over trees. -/
namespace Wv
open PySem L2 Evl
/-- a key of a dict -/
def kD : Dt → (Key → Prop) → Prop
  | .int i, k => k (.inl i)
  | .str z, k => k (.inr z)
  | _, _ => False
theorem kD_rv {so : Option Addr} {O : Addr → Prop} {H : Hp} {y : V} {d : Dt} {k : Key → Prop} (r : Rv so O H y d) (h : kD d k) : ∃ j, y = kV j ∧ k j := by
  cases r with
  | int i => exact ⟨.inl i, rfl, h⟩
  | str hz => exact ⟨.inr _, rfl, h⟩
  | _ => exact h.elim
section
variable {g : Gx} {c : Cc} {H H1 H2 H' : Hp} {σ : L2.St} {env e1 : List Sl} {ta tb te td ty tv tx : TE} {tt : TT} {t u tu tw : TS} {P : Dt → List Sl → Prop} {x : V} {d : Dt} {E : De}
theorem dct_rv {so : Option Addr} {O : Addr → Prop} {kvs : List (Key × Dt)} (r : Rv so O H x (.dct kvs)) : ∃ a xs, x = .ref a ∧ ¬ O a ∧ Rd H a (.dK xs) ∧ Tb so O H xs kvs ∧ kvs.length ≤ Zz := by
  cases r with
  | dct ho h hk hz he => exact ⟨_, _, rfl, ho, h, ⟨hk, he⟩, hz⟩
/-- of an own dict -/
theorem own_dct {i : Nat} {kvs : List (Key × Dt)} (S : Sv g.K c H σ env) (h : env[i]? = some (Sl.own (.dct kvs))) : ∃ a xs, σ[i]? = some (some (V.ref a)) ∧ H a = some (.dK xs) ∧ Tb c.so (Av c σ env) H xs kvs ∧ kvs.length ≤ Zz ∧ c.B a = none := by
  obtain ⟨a, h1, h2, h3, xs, h4, h5, h6, h7⟩ := S.own i _ h
  exact ⟨a, xs, h1, h4, ⟨h5, h7⟩, h6, h2⟩
theorem own_at {i : Nat} {a : Addr} (S : Sv g.K c H σ env) (h : env[i]? = some (Sl.own d)) (hs : σ[i]? = some (some (V.ref a))) : Oo c.so (Av c σ env) H a d ∧ c.B a = none ∧ ¬ c.O a := by
  obtain ⟨b, h1, h2, h3, h4⟩ := S.own i _ h
  rw [hs] at h1
  cases h1
  exact ⟨h4, h2, h3⟩
theorem isSome_val {so : Option Addr} {O : Addr → Prop} {xs : List (Key × V)} {kvs : List (Key × Dt)} {k : Key} (tb : Tb so O H xs kvs) : (valV xs k).isSome = (dlk kvs k).isSome := by
  have := tb.val (k := k)
  cases e : dlk kvs k with
  | none => rw [e] at this; rw [this]; rfl
  | some t => rw [e] at this; obtain ⟨v, h, _⟩ := this; rw [h]; rfl
theorem et_dget2 (h : Et g env td fun d e => ∃ kvs, d = .dct kvs ∧ Et g e ty fun k e2 => Et g e2 tx fun z e3 => kD k fun j => P ((dlk kvs j).getD z) e3) : Et g env (tDGet2 td ty tx) P := fun c L σ H S Q q =>
  h c L σ H S _ fun x d env1 H1 ⟨kvs, e0, p1⟩ S1 l1 k1 r1 => by
    subst e0
    obtain ⟨a, xs, rfl, ho, h0, tb, hz⟩ := dct_rv r1
    refine ⟨a, rfl, .inl ⟨xs, h0⟩, p1 c L σ H1 S1 _ fun y k env2 H2 p2 S2 l2 k2 r2 => p2 c L σ H2 S2 _ fun z d3 env3 H3 p3 S3 l3 k3 r3 => ?_⟩
    obtain ⟨j, rfl, p⟩ := kD_rv ((S2.kp r2 k3).mono (Av.le l3)) p3
    obtain ⟨a', xs', e', ho, h0, tb, hz⟩ := dct_rv ((S2.kp ((S1.kp r1 k2).mono (Av.le l2)) k3).mono (Av.le l3))
    cases e'
    refine ⟨valV xs' j, .inl ⟨xs', j, h0, rfl, rfl⟩, ?_⟩
    have tv := tb.val (k := j)
    cases e : dlk kvs j with
    | none =>
      rw [e] at tv p
      rw [tv]
      exact q _ _ env3 H3 p S3 ((l1.trans l2).trans l3) ((k1.trans (k2.le l1)).trans (k3.le (l1.trans l2))) r3
    | some t =>
      rw [e] at tv p
      obtain ⟨v, w1, w2⟩ := tv
      rw [w1]
      exact q _ _ env3 H3 p S3 ((l1.trans l2).trans l3) ((k1.trans (k2.le l1)).trans (k3.le (l1.trans l2))) w2
theorem et_dget2O {i : Nat} {kvs0 : List (Key × Dt)} (h0 : env[i]? = some (Sl.own (.dct kvs0))) (h : Et g env ty fun k e2 => Et g e2 tx fun z e3 => kD k fun j => ∃ kvs, e3[i]? = some (Sl.own (.dct kvs)) ∧ P ((dlk kvs j).getD z) e3) : Et g env (tDGet2 (tVar i) ty tx) P := fun c L σ H S Q q => by
  obtain ⟨a, xs, h1, h2, _⟩ := own_dct S h0
  refine ⟨.ref a, h1, a, rfl, .inl ⟨xs, .inl h2⟩, h c L σ H S _ fun y k env2 H2 p2 S2 l2 k2 r2 => p2 c L σ H2 S2 _ fun z d3 env3 H3 p3 S3 l3 k3 r3 => ?_⟩
  obtain ⟨j, rfl, kvs, hi, p⟩ := kD_rv ((S2.kp r2 k3).mono (Av.le l3)) p3
  obtain ⟨⟨xs', z1, z2, z3, z4⟩, _⟩ := own_at S3 hi h1
  refine ⟨valV xs' j, .inl ⟨xs', j, .inl z1, rfl, rfl⟩, ?_⟩
  have tv := (show Tb c.so (Av c σ env3) H3 xs' kvs from ⟨z2, z4⟩).val (k := j)
  cases e : dlk kvs j with
  | none =>
    rw [e] at tv p
    rw [tv]
    exact q _ _ env3 H3 p S3 (l2.trans l3) (k2.trans (k3.le l2)) r3
  | some t =>
    rw [e] at tv p
    obtain ⟨v, w1, w2⟩ := tv
    rw [w1]
    exact q _ _ env3 H3 p S3 (l2.trans l3) (k2.trans (k3.le l2)) w2
/-- d[k] = v, an own dict -/
theorem wd_dput {i : Nat} (h : Et g env tv fun v e => ∃ kvs0, e[i]? = some (Sl.own kvs0) ∧ Et g e ty fun k e2 => kD k fun j => ∃ kvs, e2[i]? = some (Sl.own (.dct kvs)) ∧ kvs.length < Zz ∧ E.nx (e2.set i (.own (.dct (dpt kvs j v))))) : Wd g env (sDPut (tVar i) ty tv) E := fun c L σ H S D n b k r re =>
  h c L σ H S _ fun v d e H1 ⟨kvs0, h0, p1⟩ S1 l1 k1 r1 => by
    obtain ⟨a, h1, _⟩ := S1.own i kvs0 h0
    refine ⟨.ref a, h1, p1 c L σ H1 S1 _ fun y kd e2 H2 p S2 l2 k2 r2 => ?_⟩
    obtain ⟨j, rfl, kvs, hi, hl, p⟩ := kD_rv r2 p
    obtain ⟨⟨xs, z1, z2, z3, z4⟩, _⟩ := own_at S2 hi h1
    have tb : Tb c.so (Av c σ e2) H2 xs kvs := ⟨z2, z4⟩
    have hp : Av c σ e2 a := .inr ⟨i, _, hi, .inl h1⟩
    have tb' := (tb.put (k := j) ((S1.kp r1 k2).mono (Av.le l2))).keep (A := c.O) (Ko.mut (o := .dK (putK xs j v)) hp)
    refine ⟨a, _, rfl, .inl ⟨xs, j, z1, rfl, Nat.lt_of_lt_of_le (by rw [tb.len]; exact hl) (by decide), rfl⟩, n σ _ _ (S2.put (e := .dct (dpt kvs j d)) hi h1 ⟨_, upd_same, tb'.1, Nat.le_trans (dpt_len _ _ _) hl, tb'.2⟩) (((fw_e l1 k1).trans (fw_e l2 k2)).trans (fw_put hi h1)) p⟩
/-! ### while -/
theorem wd_while (W : Nat → List Sl → Prop) (m : Nat) (h0 : W m env) (hs : ∀ m e, W m e → Eb g e tt fun b e1 => if b = true then Wd g e1 tu { nx := fun e2 => ∃ m', m' < m ∧ W m' e2, ct := fun e2 => ∃ m', m' < m ∧ W m' e2, bk := E.nx, rt := E.rt, re := E.re } else E.nx e1) : Wd g env (tWhile tt tu) E := fun c L σ H S D n b k r re => by
  refine ⟨fun m σ' H' => ∃ e, Sv g.K c H' σ' e ∧ Fw c σ env H σ' e H' ∧ W m e, ⟨m, env, S, Fw.refl, h0⟩, ?_⟩
  rintro m σ' H' ⟨e, S', f', w⟩
  refine hs m e w c L σ' H' S' _ fun v e1 H1 p S1 l1 k1 => ?_
  have f1 := f'.trans (fw_e l1 k1)
  cases v with
  | true =>
    refine ⟨fun σ2 H2 => ∃ e2, Sv g.K c H2 σ2 e2 ∧ Fw c σ env H σ2 e2 H2 ∧ ∃ m', m' < m ∧ W m' e2, fun σ2 H2 ⟨e2, S2, f2, m', hm, w2⟩ => ⟨m', hm, e2, S2, f2, w2⟩, ?_⟩
    exact p c L σ' H1 S1 _ (fun σ3 H3 e3 S3 f3 z => ⟨e3, S3, f1.trans f3, z⟩) (fun σ3 H3 e3 S3 f3 z => n σ3 H3 e3 S3 (f1.trans f3) z) (fun σ3 H3 e3 S3 f3 z => ⟨e3, S3, f1.trans f3, z⟩) (fun x d H' p hb kf rv => r x d H' p hb (f1.trans (σ2 := σ') (e2 := e1) ⟨kf, fun a z => .inl z⟩).1 rv) fun x d σ3 H3 e3 p S3 f3 rv => re x d σ3 H3 e3 p S3 (f1.trans f3) rv
  | false => exact n σ' H1 e1 S1 f1 p
end
end Wv
/-! What is walked; comprehensions. -/
namespace Wv
open PySem L2 Evl
section
variable {g : Gx} {c : Cc} {H H1 H2 H' : Hp} {σ : L2.St} {env e1 : List Sl} {ta tb te td ty tv tx : TE} {tt : TT} {t u tu tw : TS} {P : Dt → List Sl → Prop} {PL : List Dt → List Sl → Prop} {x : V} {d : Dt} {E : De} {so : Option Addr} {A O' : Addr → Prop}
theorem Rv.later (r : Rv so A H1 x d) {A2 : Addr → Prop} (k : Ko A A2 H1 H') (h : ∀ a, O' a → A a ∨ H1 a = none) : Rv so O' H' x d :=
  ((r.avoid (O' := fun a => A a ∨ O' a) fun a z => z.elim .inl (h a)).keep (k.mono (fun a z => .inl z) fun _ z => z)).mono fun a z => .inr z
theorem wk_list {a : Addr} {ds : List Dt} (r : Rv so A H1 (.ref a) (.lst ds)) : Wk so A (Itl g.K a) ds H1 := by
  cases r with
  | @lst _ xs _ ho h hl hz he =>
    have sq : ∀ H', Ko A A H1 H' → SqL g.K H' a xs := fun H' k => .inl (.inl (k.keep1 ho h fun _ z => nomatch z))
    refine ⟨hz, fun i H' hi k => ⟨xs, xs[i]'(by omega), sq H' k, by simp [hl, hi]⟩, fun H' k => ⟨xs, sq H' k, by omega⟩, fun O' i H' x H'' hi k h1 h2 ⟨e, y⟩ => ?_⟩
    subst e
    have hx := y xs (sq H'' k)
    refine ⟨Ex.refl _, ds[i], by simp [hi], ?_⟩
    exact (he i x ds[i] hx (by simp [hi])).later k h1
theorem wk_tup {a : Addr} {ds : List Dt} (r : Rv so A H1 (.ref a) (.tup ds)) : Wk so A (Itt g.K a) ds H1 := by
  cases r with
  | @tup _ xs _ ho h hl hz he =>
    have sq : ∀ H', Ko A A H1 H' → SqT g.K H' a xs := fun H' k => .inl (.inl (k.keep1 ho h fun _ z => nomatch z))
    refine ⟨hz, fun i H' hi k => ⟨xs, xs[i]'(by omega), sq H' k, by simp [hl, hi]⟩, fun H' k => ⟨xs, sq H' k, by omega⟩, fun O' i H' x H'' hi k h1 h2 ⟨e, y⟩ => ?_⟩
    subst e
    have hx := y xs (sq H'' k)
    refine ⟨Ex.refl _, ds[i], by simp [hi], ?_⟩
    exact (he i x ds[i] hx (by simp [hi])).later k h1
theorem lst_rv {ds : List Dt} (r : Rv so A H x (.lst ds)) : ∃ a xs, x = .ref a ∧ ¬ A a ∧ H a = some (.lst xs) ∧ Rvs so A H xs ds ∧ ds.length ≤ Zz := by
  cases r with
  | lst ho h hl hz he => exact ⟨_, _, rfl, ho, h, ⟨hl, he⟩, hz⟩
theorem tup_rv {ds : List Dt} (r : Rv so A H x (.tup ds)) : ∃ a xs, x = .ref a ∧ ¬ A a ∧ H a = some (.tup xs) ∧ Rvs so A H xs ds ∧ ds.length ≤ Zz := by
  cases r with
  | tup ho h hl hz he => exact ⟨_, _, rfl, ho, h, ⟨hl, he⟩, hz⟩
def rngD (lo : Int) (n : Nat) : List Dt := (List.range n).map fun i => .int (lo + (i : Nat))
theorem rngD_len (lo : Int) (n : Nat) : (rngD lo n).length = n := by simp [rngD]
theorem rngD_get {lo : Int} {n i : Nat} {d : Dt} (h : (rngD lo n)[i]? = some d) : d = .int (lo + i) ∧ i < n := by
  have hi : i < n := by have := (List.getElem?_eq_some_iff.mp h).1; rwa [rngD_len] at this
  unfold rngD at h
  rw [List.getElem?_map, List.getElem?_range hi] at h
  exact ⟨(Option.some.inj h).symm, hi⟩
theorem wk_rng {lo : Int} {n : Nat} (hn : n ≤ Zz) : Wk so A (Itr lo n) (rngD lo n) H1 := by
  refine ⟨by rw [rngD_len]; exact hn, fun i H' hi k => by rw [rngD_len] at hi; exact hi, fun H' k => by rw [rngD_len]; exact Nat.le_refl n, fun O' i H' x H'' hi k h1 h2 ⟨e, y⟩ => ?_⟩
  subst e y
  rw [rngD_len] at hi
  exact ⟨Ex.refl _, .int (lo + i), by unfold rngD; rw [List.getElem?_map, List.getElem?_range hi]; rfl, .int _⟩
theorem int_rv {i : Int} (r : Rv so A H x (.int i)) : x = .int i := by
  cases r with
  | int i => rfl
theorem str_rv {z : Str} (r : Rv so A H x (.str z)) : x = .str z ∧ z.length ≤ Zz := by
  cases r with
  | str h => exact ⟨rfl, h⟩
theorem one_rv {xs : List V} {d : Dt} (r : Rvs so A H xs [d]) : ∃ x, xs = [x] ∧ Rv so A H x d := by
  obtain ⟨h1, h2⟩ := r
  match xs, h1 with
  | [x], _ => exact ⟨x, rfl, h2 0 x d rfl rfl⟩
theorem two_rv {xs : List V} {d e : Dt} (r : Rvs so A H xs [d, e]) : ∃ x y, xs = [x, y] ∧ Rv so A H x d ∧ Rv so A H y e := by
  obtain ⟨h1, h2⟩ := r
  match xs, h1 with
  | [x, y], _ => exact ⟨x, y, rfl, h2 0 x d rfl rfl, h2 1 y e rfl rfl⟩
theorem ei_rng1 {ta : TA} (h : Ea g env ta fun ds e => ∃ n : Int, ds = [.int n] ∧ n ≤ Zz ∧ -100000 ≤ n ∧ PL (rngD 0 n.toNat) e) : Ei g env (iRng1 ta) PL := fun c L σ H S R q =>
  h c L σ H S _ fun xs ds e H1 ⟨n, e0, hn, hn2, p⟩ S1 l k r => by
    subst e0
    obtain ⟨x, rfl, r1⟩ := one_rv r
    cases int_rv r1
    exact ⟨n, rfl, by omega, by simp only [Zz] at hn; omega, q _ _ e H1 p S1 l k (wk_rng (by simp only [Zz] at hn ⊢; omega))⟩
theorem ei_rng2 {ta : TA} (h : Ea g env ta fun ds e => ∃ m n : Int, ds = [.int m, .int n] ∧ (-100000 ≤ m ∧ m ≤ 100000 ∧ -100000 ≤ n ∧ n ≤ 100000 ∧ n - m ≤ Zz) ∧ PL (rngD m (n - m).toNat) e) : Ei g env (iRng2 ta) PL := fun c L σ H S R q =>
  h c L σ H S _ fun xs ds e H1 ⟨m, n, e0, hn, p⟩ S1 l k r => by
    subst e0
    obtain ⟨x, y, rfl, r1, r2⟩ := two_rv r
    cases int_rv r1
    cases int_rv r2
    simp only [Zz] at hn
    exact ⟨m, n, rfl, ⟨by omega, by omega, by omega, by omega⟩, q _ _ e H1 p S1 l k (wk_rng (by simp only [Zz]; omega))⟩
def strD (z : Str) : List Dt := z.cps.toList.map fun k => .str ⟨#[k]⟩
theorem wipe1 {j : Nat} : wipe σ [j] = σ.set j none := rfl
theorem wipe_set1 {j : Nat} {y : V} : (wipe σ [j]).set j (some y) = σ.set j (some y) := by rw [wipe1, List.set_set]
theorem wipe_back1 {j : Nat} {y : V} : wipe ((wipe σ [j]).set j (some y)) [j] = wipe σ [j] := by rw [wipe_set1, wipe1, wipe1, List.set_set]
/-- back from the block's slots -/
theorem Sv.unset {j : Nat} {H3 : Hp} {y : V} {p : Addr} (S : Sv g.K (c.add p) H σ env) (hj : ∀ d0, env[j]? ≠ some (Sl.own d0)) (S3 : Sv g.K (c.add p) H3 (σ.set j (some y)) (env.set j (.v d))) (k : Ko (Mv (c.add p) σ env) (An (c.add p) σ env) H H3) : Sv g.K (c.add p) H3 σ env := by
  have kk : ∀ i e, env[i]? = some (Sl.own e) → i ≠ j := fun i e h z => hj e (by rw [← z]; exact h)
  have av : ∀ a, Av (c.add p) σ env a → Av (c.add p) (σ.set j (some y)) (env.set j (.v d)) a := fun a z => by
    rcases z with z | ⟨i, e, z1, z2⟩
    · exact .inl z
    · have n := kk i e z1
      exact .inr ⟨i, e, by rw [List.getElem?_set, if_neg (Ne.symm n)]; exact z1, oa_to n z2⟩
  refine ⟨S3.toHb, S.len, S.uniq, S.reg, S.fzs, fun i e z => ?_, fun i e z => ?_⟩
  · obtain ⟨w, w1, w2⟩ := S.tree i e z
    exact ⟨w, w1, S.kp w2 k⟩
  · have n := kk i e z
    obtain ⟨w, w1, w2, w3, w4⟩ := S3.own i e (by rw [List.getElem?_set, if_neg (Ne.symm n)]; exact z)
    rw [List.getElem?_set, if_neg (Ne.symm n)] at w1
    exact ⟨w, w1, w2, w3, w4.mono av⟩
/-- a write to what is avoided -/
theorem Sv.wrO {p : Addr} {o : HO} (S : Sv g.K c H σ env) (hp : c.O p) (ne : ∀ s, c.so = some s → p ≠ s ∧ p ≠ c.cc.cc) (hB : c.B p = none) (hpl : Pl H p) : Sv g.K c (upd H p o) σ env := by
  refine ⟨⟨⟨fun a u n z => ?_, fun a z => upd_some (S.base.2 a z)⟩, S.lkb, S.sO, fun a z => upd_some (S.dom a z), S.stt.put ne hpl⟩, S.len, S.uniq, S.reg, S.fzs, fun i d z => ?_, fun i d z => ?_⟩
  · have ne : a ≠ p := fun q => by rw [q, hB] at z; cases z
    rw [upd_ne ne]
    exact S.base.1 a u n z
  · obtain ⟨y, z1, z2⟩ := S.tree i d z
    exact ⟨y, z1, z2.keep (A := c.O) (Ko.mut (.inl hp))⟩
  · obtain ⟨y, z1, z2, z3, z4⟩ := S.own i d z
    exact ⟨y, z1, z2, z3, z4.keepR (A := c.O) (Ko.mut (.inl hp)) fun b hb => upd_ne fun q => (S.oa z (hb.elim (fun e => .inl (by rw [e]; exact z1)) .inr)).2.1 (by rw [q]; exact hp)⟩
/-- the new list or dict of a comprehension at its turns -/
structure Cq (g : Gx) (c : Cc) (σ : L2.St) (e1 : List Sl) (H1 : Hp) (D : Addr) (acc : Dt) (H' : Hp) : Prop where
  sv : Sv g.K (c.add D) H' σ e1
  kf : Ko (Mv c σ e1) (An c σ e1) H1 H'
  ol : Ol c.so (Av (c.add D) σ e1) H' D acc
theorem Cq.start {D : Addr} {o : HO} {acc : Dt} (S : Sv g.K c H1 σ e1) (hD : H1 D = none) (ho : Ol c.so (Av (c.add D) σ e1) (upd H1 D o) D acc) : Cq g c σ e1 H1 D acc (upd H1 D o) := ⟨S.add hD, Ko.new hD, ho⟩
/-- into the block: the item at the target's slot -/
theorem Cq.into {D : Addr} {acc : Dt} {j : Nat} {H'' : Hp} (q : Cq g c σ e1 H1 D acc H') (e : Ex H' H'') (rd : Rv c.so (Av (c.add D) σ e1) H'' x d) : Cq g c σ e1 H1 D acc H'' ∧ Sv g.K (c.add D) H'' (σ.set j (some x)) (e1.set j (.v d)) := by
  have S'' := q.sv.ex e
  refine ⟨⟨S'', q.kf.trans (Ko.ex e), q.ol.keep (A := c.O) (Ko.ex e) ?_⟩, S''.set_v rd⟩
  cases z : H' D with
  | none => exact absurd z q.ol.some
  | some u => exact e D u z
/-- a step within the block -/
theorem Cq.step {D : Addr} {acc : Dt} {j : Nat} {H3 : Hp} {y : V} (q : Cq g c σ e1 H1 D acc H') (S1 : Sv g.K c H1 σ e1) (hD : H1 D = none) (hj : ∀ d0, e1[j]? ≠ some (Sl.own d0)) (Sb : Sv g.K (c.add D) H' (σ.set j (some y)) (e1.set j (.v d)))
    (S3 : Sv g.K (c.add D) H3 (σ.set j (some y)) (e1.set j (.v d))) (k3 : Ko (Mv (c.add D) (σ.set j (some y)) (e1.set j (.v d))) (An (c.add D) (σ.set j (some y)) (e1.set j (.v d))) H' H3) : Cq g c σ e1 H1 D acc H3 := by
  have hDs : ∀ s, Chg c.so c.cc s → D ≠ s := fun s z q => S1.dom s (S1.sO s z).1 (by rw [← q]; exact hD)
  have nD : ¬ Mv (c.add D) (σ.set j (some y)) (e1.set j (.v d)) D := fun z => by
    rcases z with z | z
    · exact hDs D z rfl
    · obtain ⟨i', d', z1, z2⟩ := z
      exact (Sb.oa z1 z2).2.1 (.inr rfl)
  have own : ∀ a, Ow σ e1 a → Ow (σ.set j (some y)) (e1.set j (.v d)) a := fun a ⟨i, e, z1, z2⟩ => by
    have n : i ≠ j := fun z => hj e (by rw [← z]; exact z1)
    exact ⟨i, e, by rw [List.getElem?_set, if_neg (Ne.symm n)]; exact z1, oa_to n z2⟩
  have k3' : Ko (Mv (c.add D) σ e1) (An (c.add D) σ e1) H' H3 := k3.mono (fun a z => mv_set_v a z) fun a z => z.imp id (fun z => z.imp id (own a))
  have D3 : H3 D = H' D := k3.same nD (.inr (.inl (.inr rfl))) q.ol.some
  exact ⟨q.sv.unset hj S3 k3', q.kf.trans (k3'.mono (fun a z => z) fun a z => z.imp id fun z => Av.add.mpr (.inl z)), q.ol.keep (k3'.mono (Mv.av q.sv.sO) fun _ z => z) D3⟩
theorem Cq.out {D : Addr} {j : Nat} {y : V} {t : Dt} {x' : V} (hj : ∀ d0, e1[j]? ≠ some (Sl.own d0)) (r : Rv so (Av (c.add D) (σ.set j (some y)) (e1.set j (.v d))) H x' t) : Rv so (Av (c.add D) σ e1) H x' t := r.mono fun a z => by
  rcases z with z | ⟨i', d', z1, z2⟩
  · exact .inl z
  · have n : i' ≠ j := fun q => hj d' (by rw [← q]; exact z1)
    exact .inr ⟨i', d', by rw [List.getElem?_set, if_neg (Ne.symm n)]; exact z1, oa_to n z2⟩
/-- the new list or dict grows -/
theorem Cq.write {D : Addr} {acc acc' : Dt} {o : HO} (q : Cq g c σ e1 H1 D acc H') (S1 : Sv g.K c H1 σ e1) (hD : H1 D = none) (ho : Ol c.so (Av (c.add D) σ e1) (upd H' D o) D acc') : Cq g c σ e1 H1 D acc' (upd H' D o) := by
  refine ⟨q.sv.wrO (.inr rfl) (fun s z => ⟨fun q => S1.dom s (S1.sO s (.inl z)).1 (by rw [← q]; exact hD), fun q => S1.dom c.cc.cc ((S1.sO s (.inl z)).2 s z) (by rw [← show D = c.cc.cc from q]; exact hD)⟩) (base_none S1 hD) q.ol.pl, ⟨fun a u n z => ?_, fun a z => upd_some (q.kf.2 a z)⟩, ho⟩
  have ne : a ≠ D := fun q => by rw [q, hD] at z; cases z
  rw [upd_ne ne]
  exact q.kf.1 a u n z
theorem Cq.wr_list {D : Addr} {acc : List Dt} {xs : List V} {t : Dt} (q : Cq g c σ e1 H1 D (.lst acc) H') (S1 : Sv g.K c H1 σ e1) (hD : H1 D = none) (hx : H' D = some (.lst xs)) (hz : acc.length < Zz) (r : Rv c.so (Av (c.add D) σ e1) H' x t) :
    Cq g c σ e1 H1 D (.lst (acc ++ [t])) (upd H' D (.lst (xs ++ [x]))) := by
  obtain ⟨xs', z1, z2, z3, z4⟩ := q.ol
  rw [hx] at z1
  cases z1
  have kD : Ko (Av (c.add D) σ e1) c.O H' (upd H' D (.lst (xs ++ [x]))) := Ko.mut (.inl (.inr rfl))
  refine q.write S1 hD ⟨xs ++ [x], upd_same, by simp [z2], by rw [List.length_append]; exact hz, fun n y' t' w1 w2 => ?_⟩
  rw [List.getElem?_append] at w1 w2
  by_cases hn : n < xs.length
  · rw [if_pos hn] at w1
    rw [if_pos (by rw [← z2]; exact hn)] at w2
    exact (z4 n y' t' w1 w2).keep kD
  · rw [if_neg hn] at w1
    rw [if_neg (by rw [← z2]; exact hn)] at w2
    rw [← z2] at w2
    cases hq : n - xs.length with
    | zero => rw [hq] at w1 w2; cases w1; cases w2; exact r.keep kD
    | succ m => rw [hq] at w1; simp at w1
theorem ef_lc {wi : TI} {j : Nat} (h : Ei g env wi fun ds e1 => (∀ d0, e1[j]? ≠ some (Sl.own d0)) ∧ ∃ I : Nat → List Dt → Prop, I 0 [] ∧ (∀ i d acc, ds[i]? = some d → I i acc → Eb g (e1.set j (.v d)) tt fun b e2 => e2 = e1.set j (.v d) ∧
    if b = true then Et g (e1.set j (.v d)) te fun t e3 => e3 = e1.set j (.v d) ∧ I (i + 1) (acc ++ [t]) else I (i + 1) acc) ∧ ∀ acc, I ds.length acc → P (.lst acc) e1) : Ef g env (tLc wi (gName j) tt te [j]) P := fun c L σ H S Q q => by
  refine h c L σ H S _ fun J ds e1 H1 ⟨hj, I, i0, hs, hd⟩ S1 l1 k1 w D hD => ?_
  refine ⟨fun i m H' => m = ds.length - i ∧ i ≤ ds.length ∧ ∃ acc, acc.length ≤ i ∧ I i acc ∧ Cq g c σ e1 H1 D (.lst acc) H',
    ⟨_, rfl, Nat.zero_le _, [], Nat.le_refl _, i0, Cq.start S1 hD ⟨[], upd_same, rfl, Nat.zero_le _, fun i x d z => by simp at z⟩⟩, ?_⟩
  rintro i m H' ⟨rfl, hi, acc, hal, hI, C'⟩
  have ka := C'.kf.mono (A' := Av c σ e1) (Mv.av S1.sO) fun _ z => .inr z
  by_cases hlt : i < ds.length
  · refine .inr ⟨w.go i H' hlt ka, fun H2 => ∃ acc, acc.length ≤ i + 1 ∧ I (i + 1) acc ∧ Cq g c σ e1 H1 D (.lst acc) H2, fun H2 z => ⟨ds.length - (i + 1), by omega, rfl, hlt, z⟩, fun x H'' y => ?_⟩
    obtain ⟨e, d, ed, rd⟩ := w.yld (Av (c.add D) σ e1) i H' x H'' hlt ka (fun a z => by
      rcases Av.add.mp z with z | z
      · exact .inl z
      · exact .inr (by rw [z]; exact hD)) C'.sv.lk_av y
    obtain ⟨C2, Sb⟩ := C'.into (j := j) e rd
    show wipe ((wipe σ [j]).set j (some x)) [j] = wipe σ [j] ∧ tt ((wipe σ [j]).set j (some x)) H'' _
    refine ⟨wipe_back1, ?_⟩
    rw [wipe_set1]
    refine hs i d acc ed hI (c.add D) (L.add S1.sO) (σ.set j (some x)) H'' Sb _ fun b e2 H3 ⟨e0, pb⟩ S3 l3 k3 => ?_
    subst e0
    have C3 := C2.step S1 hD hj Sb S3 k3
    cases b with
    | false => exact ⟨acc, Nat.le_succ_of_le hal, pb, C3⟩
    | true =>
      refine pb (c.add D) (L.add S1.sO) (σ.set j (some x)) H3 S3 _ fun y t e3 H4 ⟨e0, pt⟩ S4 l4 k4 r4 => ?_
      subst e0
      have C4 := C3.step S1 hD hj S3 S4 k4
      obtain ⟨xs, z1, z2, z3, z4⟩ := C4.ol
      have hl := w.len
      exact ⟨xs, z1, Nat.lt_of_lt_of_le (show xs.length < Zz by omega) (by decide), acc ++ [t], by simp; omega, pt, C4.wr_list S1 hD z1 (by omega) (Cq.out hj r4)⟩
  · have : i = ds.length := by omega
    subst this
    exact .inl ⟨w.stop H' ka, q D (.lst acc) e1 H' (hd acc hI) C'.sv l1 (k1.trans (C'.kf.le l1)) (k1.back hD) C'.ol⟩
end
end Wv
/-! One rule for each construct, by all the kinds of values. -/
namespace L2
open PySem PySem.Spec PyProof.Rows
section
variable {X : Cx}
/-- what may be walked: a list, a tuple, a text, a dict (locked from then on) -/
def iAny (K : PySem.W.Frag) (tl : TE) : TI := fun σ H R => tl σ H fun x H1 => (∃ a, x = .ref a ∧ (∃ xs, SqL K H1 a xs) ∧ R (Itl K a) H1) ∨ (∃ a, x = .ref a ∧ (∃ xs, SqT K H1 a xs) ∧ R (Itt K a) H1) ∨ (∃ z, x = .str z ∧ R (Its z) H1) ∨
  (∃ d od kvs, x = .ref d ∧ H1 d = some (.frz od (.dK kvs)) ∧ R (Itk d od kvs) H1) ∨ ∃ d kvs, x = .ref d ∧ H1 d = some (.dK kvs) ∧ ∀ od, R (Itk d od kvs) (upd H1 d (.frz od (.dK kvs)))
theorem pi_any {tg l : Expr} {tl : TE} (hl : PE X l tl) : PI X tg l (iAny X.K tl) := by
  refine ⟨fun pins s σ H R I h => ?_⟩
  refine thn (hl.run pins s σ H _ I h) fun v s1 ⟨x, H1, I1, r1, q1⟩ => ?_
  rcases q1 with ⟨a, e, ⟨xs, hq⟩, q⟩ | ⟨a, e, ⟨xs, hq⟩, q⟩ | ⟨z, e, q⟩ | ⟨d, o, kvs, e, hd, q⟩ | ⟨d, kvs, e, hd, q⟩
  · subst e
    cases r1
    obtain ⟨its, rv, p, hz⟩ := I1.list hq
    refine wpAny_pyIter_list p.isList ?_
    refine ⟨s1.heap.objs.size, [s1.heap.objs.size], _, _, H1, rfl, I1.kept (t' := s1.toks) fun b o e => Heap.get?_push_of_some _ e, turn_list a _, ⟨_, Heap.get?_push_size _ rfl, rfl, rfl⟩, fun b hb => ?_, q⟩
    have e : b = s1.heap.objs.size := by simpa using hb
    subst e
    exact I1.fpOk (Nat.le_refl _) (I1.hok.fresh (Nat.le_refl _))
  · subst e
    cases r1
    obtain ⟨its, rv, p, hz⟩ := I1.tuple hq
    refine wpAny_pyIter_tuple (show s1.heap.IsTuple a its.toArray from p) ?_
    refine ⟨s1.heap.objs.size, [s1.heap.objs.size], _, _, H1, rfl, I1.kept (t' := s1.toks) fun b o e => Heap.get?_push_of_some _ e, turn_tuple a _, ⟨_, Heap.get?_push_size _ rfl, rfl, rfl⟩, fun b hb => ?_, q⟩
    have e : b = s1.heap.objs.size := by simpa using hb
    subst e
    exact I1.fpOk (Nat.le_refl _) (I1.hok.fresh (Nat.le_refl _))
  · subst e
    obtain ⟨t, rfl⟩ := r1
    cases ha : z.cps.all (· < 128)
    · exact wpAny_pyIter_wide ha (pi_one (tk := s1.toks) I1 _ (turn_str _ z t "str_iterator" (.inr rfl)) ⟨_, Heap.get?_push_size _ rfl, rfl, rfl⟩ q)
    · exact wpAny_pyIter_ascii ha (pi_one (tk := s1.toks) I1 _ (turn_str _ z t "str_ascii_iterator" (.inl rfl)) ⟨_, Heap.get?_push_size _ rfl, rfl, rfl⟩ q)
  · subst e
    obtain rfl : v = Value.ref d := r1
    obtain ⟨hs, hgd, hx, es, ep, vs, hdt, hsz, kv, hm⟩ := I1.frzK hd
    refine iter_keys hs hgd hx hdt (pi_one (tk := s1.toks) I1 _ (turn_keys _ hdt) ⟨_, Heap.get?_push_size _ rfl, rfl, ?_⟩ q)
    rw [hsz] <;> rfl
  · subst e
    obtain rfl : v = Value.ref d := r1
    obtain ⟨od, I2⟩ := I1.lock hd trivial
    obtain ⟨hs, hgd, hx, es, ep, vs, hdt, hsz, kv, hm⟩ := I2.frzK upd_same
    refine iter_keys hs hgd hx hdt (pi_one (tk := s1.toks) I2 _ (turn_keys _ hdt) ⟨_, Heap.get?_push_size _ rfl, rfl, ?_⟩ (q od))
    rw [hsz] <;> rfl
/-- d[k] by values -/
def rIxK : R2 := fun x y H Q => ∃ a v, x = .ref a ∧ DGet H a y (some v) ∧ Q v H
theorem ix_dct (hu : X.A.units + 1 < cLine) : IxR X rIxK := by
  intro value slice pins s σ H x y v u Q I rx ry h hs
  obtain ⟨a, r, rfl, g, q⟩ := h
  obtain rfl : v = Value.ref a := rx
  exact tail_any (dict_typeIs I g) slot_dict_getitem.lookup (d_getItem hu I g ry fun w' s3 I3 rw' => ⟨r, H, I3, rw', q⟩) hs
def rIxA (K : PySem.W.Frag) : R2 := fun x y H Q => rIx K x y H Q ∨ rIxK x y H Q
theorem uIxA (K : PySem.W.Frag) (hu : X.A.units + 64 < cLine) (hK : X.K = K := by rfl) : IxR X (rIxA K) := by
  subst hK
  exact ix_seq.or (ix_dct (by omega))
def rInK : R2 := fun y x H Q => ∃ a o, x = .ref a ∧ DGet H a y o ∧ Q (.bl o.isSome) H
def rNiK : R2 := fun y x H Q => ∃ a o, x = .ref a ∧ DGet H a y o ∧ Q (.bl (!o.isSome)) H
theorem op_inK (hu : X.A.units + 1 < cLine) : OpR X (compareOp .In) rInK := by
  intro pins s σ H y x iv u Q I ry rx h
  obtain ⟨a, ov, rfl, g, q⟩ := h
  obtain rfl : u = Value.ref a := rx
  exact d_in hu I g ry fun s3 I3 => ⟨.bl ov.isSome, H, I3, rfl, q⟩
theorem op_niK (hu : X.A.units + 1 < cLine) : OpR X (compareOp .NotIn) rNiK := by
  intro pins s σ H y x iv u Q I ry rx h
  obtain ⟨a, ov, rfl, g, q⟩ := h
  obtain rfl : u = Value.ref a := rx
  exact d_notIn hu I g ry fun s3 I3 => ⟨.bl (!ov.isSome), H, I3, rfl, q⟩
def rInS : R2 := fun x y H Q => ∃ (c : Nat) (z : Str), x = .str ⟨#[c]⟩ ∧ y = .str z ∧ Q (.bl (decide (c ∈ z.cps.toList))) H
def rNiS : R2 := fun x y H Q => ∃ (c : Nat) (z : Str), x = .str ⟨#[c]⟩ ∧ y = .str z ∧ Q (.bl (!decide (c ∈ z.cps.toList))) H
def rInA (K : PySem.W.Frag) : R2 := fun x y H Q => rIn K false x y H Q ∨ rInK x y H Q ∨ rInS x y H Q
def rNiA (K : PySem.W.Frag) : R2 := fun x y H Q => rIn K true x y H Q ∨ rNiK x y H Q ∨ rNiS x y H Q
theorem uInA (K : PySem.W.Frag) (hu : X.A.units + 64 < cLine) (hK : X.K = K := by rfl) : OpR X (compareOp .In) (rInA K) := by
  subst hK
  exact op_in_seq.or ((op_inK (by omega)).or op_in_sign)
theorem uNiA (K : PySem.W.Frag) (hu : X.A.units + 64 < cLine) (hK : X.K = K := by rfl) : OpR X (compareOp .NotIn) (rNiA K) := by
  subst hK
  exact op_notIn_seq.or ((op_niK (by omega)).or op_notIn_sign)
def rLenD : List V → Hp → VK → Prop := fun xs H Q => ∃ a kvs, xs = [V.ref a] ∧ Rd H a (.dK kvs) ∧ Q (.int kvs.length) H
theorem call_lenR : CallR X (.builtin "len") rLenD := by
  intro pins s σ H xs us Q I r h
  obtain ⟨a, kvs, rfl, ha, q⟩ := h
  obtain ⟨u, rfl, ru⟩ := vals1 r
  cases ru
  exact d_len I ha fun t s' I' => ⟨.int kvs.length, H, I', ⟨t, rfl⟩, q⟩
def rLenTx : List V → Hp → VK → Prop := fun xs H Q => ∃ z : Str, xs = [.str z] ∧ z.length ≤ sizeLine ∧ Q (.int z.length) H
def rLenA (K : PySem.W.Frag) : List V → Hp → VK → Prop := fun xs H Q => Evl.rLenS K xs H Q ∨ rLenD xs H Q ∨ rLenTx xs H Q
theorem u_lenA (K : PySem.W.Frag) (hK : X.K = K := by rfl) : CallR X (.builtin "len") (rLenA K) := by
  subst hK
  exact CallR.or call_len_seq (CallR.or call_lenR call_len_str)
/-- list(x): of a list, a tuple, a dict -/
def rListR : List V → Hp → VK → Prop := fun xs H Q => ∃ p kvs, xs = [.ref p] ∧ Rd H p (.dK kvs) ∧ ∀ q, H q = none → Q (.ref q) (upd H q (.lst (kvs.map fun kv => kV kv.1)))
theorem call_list_dR (hc : X.calm = true) : CallR X (.type "list") rListR := by
  intro pins s σ H xs us Q I r h
  obtain ⟨p, kvs, e, hk, q⟩ := h
  subst e
  obtain ⟨u, eu, rx⟩ := vals1 r
  subst eu
  obtain rfl : u = Value.ref p := rx
  obtain ⟨z, lo, vs, rk, hd⟩ := (show ObjOk X.prog X.w H s.heap p (.dK kvs) from hk.ok I.hok)
  obtain ⟨ep, hat⟩ := hd.dictAt
  have hl : kvs.length = vs.length := Paired.length rk
  refine PySem.W.kdl_call (PySem.W.kdl_dict (knd := mixKind X.prog X.w) (kvs := vs) (ep := ep) lo) (I.ok.hd hc) hat (by rw [← hl]; exact z) fun h' tk acc' c' hkeep hS hacc => ?_
  refine ⟨.ref s.heap.objs.size, upd H s.heap.objs.size (.lst (kvs.map fun kv => kV kv.1)), I.laid hkeep (Nat.le_refl _) (show ObjOk X.prog X.w _ _ _ (.lst (kvs.map fun kv => kV kv.1)) from ⟨?_, acc'.toList, c', ?_, ?_⟩), rfl, q _ (I.hok.fresh (Nat.le_refl _))⟩
  · rw [List.length_map]; exact z
  · have el : acc'.toList.length = acc'.size := by simp
    refine vals_of_at (by rw [List.length_map, el, hacc.1, hl]) fun j x w h1 h2 => ?_
    obtain ⟨k, y, hky, hi⟩ := hacc.2 j w (by rw [← Array.getElem?_toList]; exact h2)
    have e1 : (kvs.map (·.1))[j]? = some k := by
      rw [KV.keys rk, List.getElem?_map, hky] <;> rfl
    have e2 : (kvs.map fun kv => kV kv.1)[j]? = some (kV k) := by
      have e3 : (kvs.map fun kv => kV kv.1) = (kvs.map (·.1)).map kV := by rw [List.map_map] <;> rfl
      rw [e3, List.getElem?_map, e1] <;> rfl
    rw [e2] at h1
    cases h1
    exact keyIs_rel hi
  · rw [Array.toArray_toList]; exact hS
def rListA (K : PySem.W.Frag) : List V → Hp → VK → Prop := fun xs H Q => Evl.rListS K xs H Q ∨ rListR xs H Q
theorem u_listA (K : PySem.W.Frag) (hc : X.calm = true) (hK : X.K = K := by rfl) : CallR X (.type "list") (rListA K) := by
  subst hK
  exact CallR.or call_list_of (call_list_dR hc)
def rTupA (K : PySem.W.Frag) : List V → Hp → VK → Prop := fun xs H Q => ∃ p ys, xs = [.ref p] ∧ ((SqL K H p ys ∧ ∀ l, H l = none → Q (.ref l) (upd H l (.tup ys))) ∨ (SqT K H p ys ∧ Q (.ref p) H))
theorem u_tupA (K : PySem.W.Frag) (hK : X.K = K := by rfl) : CallR X (.type "tuple") (rTupA K) := by
  subst hK
  exact call_tuple_of
def rSortD : List V → Hp → VK → Prop := fun xs H Q => ∃ (a : Addr) (kvs : List (Key × V)) (ks : List Str), xs = [.ref a] ∧ Rd H a (.dK kvs) ∧ kvs.map (·.1) = ks.map Sum.inr ∧ ks.length < 64 ∧
  ∀ ys p, ys.Perm ks → sortedS ys = true → H p = none → Q (.ref p) (upd H p (.lst (ys.map V.str)))
def rSortA (K : PySem.W.Frag) : List V → Hp → VK → Prop := fun xs H Q => rSortedS K xs H Q ∨ rSortD xs H Q
theorem u_sortA (K : PySem.W.Frag) (hc : X.calm = true) (hK : X.K = K := by rfl) : CallR X (.builtin "sorted") (rSortA K) := by
  subst hK
  exact CallR.or cr_sortedS (call_sortedD hc)
def rSlU (K : PySem.W.Frag) : V → Option Int → Option Int → Hp → VK → Prop := fun x lo hi H Q => rSlL K x lo hi H Q ∨ rSlA K x lo hi H Q ∨ rSlS x lo hi H Q
theorem uSlA (K : PySem.W.Frag) (hK : X.K = K := by rfl) : SlR X (rSlU K) := by
  subst hK
  exact sl_list.or (sl_tupA.or sl_str)
theorem u_minA (K : PySem.W.Frag) (hc : X.calm = true) (hK : X.K = K := by rfl) : CallR X (.builtin "min") (rMin K) := by
  subst hK
  exact cr_min hc
theorem u_allA (K : PySem.W.Frag) (hc : X.calm = true) (hK : X.K = K := by rfl) : CallR X (.builtin "all") (rAll K) := by
  subst hK
  exact cr_all hc
end
end L2
/-! C.m(..), m a static method of C. -/
namespace L2
open PySem PySem.Spec PyProof.Rows
/-- C.m is a static method: its record at p, its def at g -/
structure SMet (K : PySem.W.Frag) (C : Addr) (mc : Value) (m : Str) (p g : Addr) : Prop where
  at_ : PySem.W.findCls K (.ref C) mc m = some (.get (.builtin "staticmethod.__get__") (.ref p) .none (.ref C))
  rc : ∃ rest, PySem.W.recIn K p "staticmethod" = some (.ref g :: rest)
section
variable {X : Cx} {pins : List (Addr × Obj)} {σ : L2.St} {H : Hp} {s : Shared} {C p g : Addr} {mc : Value} {m : Str} {A : Around} {E : Value → Shared → Prop}
theorem getmethsm_ok {pl : Sem Bool} {Q : Value × List Value → Shared → Prop} (I : Inv X pins σ H s) (r : ClX.CRead X.K C mc) (k : SMet X.K C mc m p g)
    (h : ∀ s', Inv X pins σ H s' → Q (.ref g, []) s') : wpAny (model X.prog X.w) A (getMethod (.ref C) m pl) Q E s := by
  obtain ⟨rest, hp⟩ := k.rc
  refine PySem.W.method_cls I.kIn r.ga (PySem.W.cls_bind I.kIn r.rd k.at_ ?_)
  refine wpAny_call (PySem.W.sm_get (s := { s with toks := s.toks + 1 }) I.kIn hp (PySem.W.handed_on rfl ?_))
  exact h _ (I.tok _)
end
section
variable {X : Cx} {CX : CXT} {k : Nat} {C p g : Addr} {mc : Value} {fd : FuncData} {ps : List Str} {sp : Sp} {dvs : List V} {ds : List Value} {E : XK} {o e : Expr} {es : List Expr} {m : Str} {pos apos : Pos} {t : TA} {pl : Sem Bool}
theorem pe_smeth (he : PE X o (tC (.ref C))) (r : ClX.CRead X.K C mc) (c : SMet X.K C mc m p g) (F : FnOk X.prog X.w X.K X.mg X.base CX k g fd ps sp) (hr : Room k X.A) (hk : PySem.W.keepIn X.K (.ref g) = true) (hb : Binds X.K fd ps ds) (hd : Vals dvs ds) (hx : Passes CX X E) (ha : PA X (e :: es) t)
    (hst : starEach (e :: es) X.env = (false, eval e X.env) :: starEach es X.env := by rfl) (hpl : (backTo pos (starEach es X.env)).any (·.1) = false := by rfl)
    (ht : eval (.Call (.Attribute o m apos) (e :: es) [] pos) X.env = (do
      let ov ← eval o X.env
      standAt apos.atName
      let (f, first) ← holding [ov] (getMethod ov m pl)
      callWith pos f first (backTo pos (starEach (e :: es) X.env)) (backToKw pos (keywordEach [] X.env))) := by rfl) :
    PE X (.Call (.Attribute o m apos) (e :: es) [] pos) (tCall sp dvs E t) := by
  refine ⟨fun pins s σ H Q I h => ?_⟩
  refine PySem.W.methodCall_KW (pl := pl) (thn (he.run pins s σ H (fun x H1 => x = .ref C ∧ H1 = H) I ⟨rfl, rfl⟩) fun u s1 ⟨x, H1, I1, rx, ex, eh⟩ => ?_) ht
  subst ex
  subst eh
  obtain rfl : u = Value.ref C := rx
  refine getmethsm_ok I1 r c fun s2 I2 => ?_
  refine PySem.W.callWith_K (h₀ := X.base) I2.ok.mod.kin hk (thn (ha.run pos pins s2 σ _ _ I2 h) fun us s3 ⟨vs, H2, I3, rv, q2⟩ => ⟨I3.kIn, ?_⟩) hst hpl
  exact run_fn F hr hb hd hx I3 rv q2
end
end L2
/-! the head's facts of exception classes -/
namespace Lw
open PySem PySem.Spec PyProof.Rows L2
abbrev veM : List Value := [.type "ValueError", .type "Exception", .type "BaseException", .type "object"]
abbrev ExV : Type := Option (Str × Str × Arguments × FuncBody × Scope × Addr × List Str × Value × Value × Addr)
def exAt (K : PySem.W.Frag) (f : Addr) : ExV := match K.lookup f with
  | some ⟨_, _, .func fd, _⟩ => some (fd.name, fd.qualname, fd.params, fd.body, fd.scope, fd.globals, fd.closure.map (·.1), fd.defaults, fd.kwdefaults, fd.builtins)
  | _ => none
def exOf (qual : Str) (st : Stmt) : ExV := some ("__init__", qual, defArgs st, .stmts (defBody st), defScope st, mainGlobals, ["__class__"], .none, .none, builtinsNs)
def clsB (K : PySem.W.Frag) (C : Addr) : Bool := match K.lookup C with
  | some ⟨.type "type", _, .cls cd, sl⟩ => (match cd.mro, sl.toList with
    | .ref C' :: bm, [_, _, _, _, some (.builtin n), _] => C' == C && (n == "ValueError.__new__" && (!cd.hasDel && (cd.hasDict && (HandSPX.refsVE bm && He.eqO (PySem.W.alongIn K "__init__" bm) (some (some (.builtin "ValueError.__init__")))))))
    | _, _ => false)
  | _ => false
theorem clsB_ok {K : PySem.W.Frag} {C : Addr} (h : clsB K C = true) : ∃ nm q N bs bm sn sub ab col dd k0 k1 k2 k3 k5, K.lookup C = some (excClassObj nm q C N bs bm true sn sub ab col dd k0 k1 k2 k3 k5 "ValueError.__new__") ∧ HandSPX.refsVE bm = true ∧ PySem.W.alongIn K "__init__" bm = some (some (.builtin "ValueError.__init__")) := by
  unfold clsB at h
  split at h
  · rename_i dd cd sl ho
    split at h
    · rename_i C' bm k0 k1 k2 k3 n k5 hm hs
      obtain ⟨h1, h⟩ := He.ba h
      obtain ⟨h2, h⟩ := He.ba h
      obtain ⟨h3, h⟩ := He.ba h
      obtain ⟨h4, h⟩ := He.ba h
      obtain ⟨h5, h6⟩ := He.ba h
      obtain rfl := beq_iff_eq.mp h1
      obtain rfl := beq_iff_eq.mp h2
      obtain ⟨nm, bs, mro, ns, qn, hd, sn, sub, ab, col, del⟩ := cd
      dsimp only at hm h3 h4
      subst hm h4
      have h3' : del = false := by simpa using h3
      subst h3'
      have hsl : sl = #[k0, k1, k2, k3, some (.builtin "ValueError.__new__"), k5] := by
        obtain ⟨l⟩ := sl
        simp only at hs
        rw [hs]
      subst hsl
      exact ⟨nm, qn, ns, bs, bm, sn, sub, ab, col, dd, k0, k1, k2, k3, k5, ho, h5, He.eqO_ok h6⟩
    · cases h
  · cases h
def cellB (K : PySem.W.Frag) (C f : Addr) (qual file : Str) : Bool := match K.lookup f with
  | some ⟨_, _, .func fd, _⟩ => (match fd.closure, fd.code with
    | [(_, cc)], .ref cda => (match K.lookup cc with
      | some ⟨_, _, .cell (some (.ref C')), _⟩ => C' == C
      | _ => false) && (PySem.W.codeIn K (.ref cda) qual && (match K.lookup cda with
        | some ⟨_, _, .fields vs, _⟩ => (match (vs[2]? : Option Value) with
          | some (.str z _) => file == z
          | _ => false)
        | _ => false))
    | _, _ => false)
  | _ => false
def excB (K : PySem.W.Frag) (D : Addr) : Bool := He.eqO (PySem.W.findIn K (.ref D) "__getattribute__") (some (some (.builtin "BaseException.__getattribute__"))) && (He.eqO (PySem.W.findIn K (.ref D) "__getattr__") (some none) && (decide (PySem.W.subIn K (.ref D) (.type "BaseException") = some true) && (PySem.W.hasDictIn K D &&
  (He.eqO (PySem.W.findIn K (.ref D) "__class__") (some (some (.builtin "object.__class__"))) && (He.eqO (PySem.W.specialIn K (.builtin "object.__class__") "__get__") (some (some (.builtin "getset_descriptor.__get__"))) && (decide (PySem.W.takesIn K (.builtin "object.__class__") = some true) && decide (PySem.W.mroIn K D (.type "object") = some true)))))))
theorem excB_ok {K : PySem.W.Frag} {D : Addr} (h : excB K D = true) : ExcC K D ∧ XfC K D := by
  obtain ⟨h1, h⟩ := He.ba h
  obtain ⟨h2, h⟩ := He.ba h
  obtain ⟨h3, h⟩ := He.ba h
  obtain ⟨h4, h⟩ := He.ba h
  obtain ⟨h5, h⟩ := He.ba h
  obtain ⟨h6, h⟩ := He.ba h
  obtain ⟨h7, h8⟩ := He.ba h
  exact ⟨⟨He.eqO_ok h1, He.eqO_ok h2, of_decide_eq_true h3, h4, He.eqO_ok h5, He.eqO_ok h6, of_decide_eq_true h7, of_decide_eq_true h8⟩, ⟨He.eqO_ok h1, He.eqO_ok h2, of_decide_eq_true h3, h4⟩⟩
def xB (K : PySem.W.Frag) (C f : Addr) (y qual file : Str) : Bool := clsB K C && (He.eqO (PySem.W.findIn K (.ref C) "__setattr__") (some (some (.builtin "object.__setattr__"))) && (He.eqO (PySem.W.findIn K (.ref C) y) (some none) && (He.eqO (PySem.W.findIn K (.ref C) "__init__") (some (some (.ref f))) &&
  (decide (PySem.W.typeIn K (.ref f) = some (.type "function")) && (PySem.W.keepIn K (.ref C) && (He.eqO (PySem.W.nsIn K cStatics "thirdparty.any") (some none) && (He.eqO (PySem.W.nsIn K mainGlobals "super") (some none) && cellB K C f qual file)))))))
theorem xB_ok {K : PySem.W.Frag} {prog : Program} {C f : Addr} {y qual : Str} {st : Stmt} {p1 p2 q1 q2 q3 q4 q5 q6 q7 q8 q9 q10 : Pos} (h : xB K C f y qual prog.main.file = true) (e : exAt K f = exOf qual st) (yo : Sx.YOk y) (top : (prog.main.scope.names.lookup ("super" : Str)).isSome = false)
    (ea : defArgs st = Sx.iArgs y p1 p2) (eb : defBody st = [Sx.iSup y q1 q2 q3 q4 q5 q6, Sx.iSet y q7 q8 q9 q10]) (es : defScope st = Sx.iScope y) (hp : (q3.endLine == q5.line) = true) : Sx.XTxt K prog y C f := by
  obtain ⟨h1, h⟩ := He.ba h
  obtain ⟨h2, h⟩ := He.ba h
  obtain ⟨h3, h⟩ := He.ba h
  obtain ⟨h4, h⟩ := He.ba h
  obtain ⟨h5, h⟩ := He.ba h
  obtain ⟨h6, h⟩ := He.ba h
  obtain ⟨h7, h⟩ := He.ba h
  obtain ⟨h8, h9⟩ := He.ba h
  refine ⟨clsB_ok h1, He.eqO_ok h2, He.eqO_ok h3, He.eqO_ok h4, of_decide_eq_true h5, h6, He.eqO_ok h7, He.eqO_ok h8, yo, top, ?_⟩
  unfold exAt at e
  unfold cellB at h9
  cases q : K.lookup f with
  | none => rw [q] at e; cases e
  | some o =>
    obtain ⟨oc, od, dt, osl⟩ := o
    rw [q] at e h9
    cases dt with
    | func fd =>
      obtain ⟨n1, n2, n3, n4, n5, n6, n7, n8, n9, n10, n11, n12, n13, n14, n15⟩ := fd
      have e2 : (some (n1, n2, n3, n4, n5, n6, n7.map (·.1), n8, n9, n15) : ExV) = exOf qual st := e
      unfold exOf at e2
      simp only [Option.some.injEq, Prod.mk.injEq] at e2
      obtain ⟨g1, g2, g3, g4, g5, g6, g7, g8, g9, g10⟩ := e2
      subst g1 g2 g3 g4 g5 g6 g8 g9 g10
      dsimp only at h9
      split at h9
      · rename_i nm0 cc cda
        simp only [List.map_cons, List.map_nil, List.cons.injEq, and_true] at g7
        subst g7
        obtain ⟨k1, k2⟩ := He.ba h9
        obtain ⟨k2, k3⟩ := He.ba k2
        refine ⟨oc, od, n2, n10, n11, n12, cda, cc, n14, osl, p1, p2, q1, q2, q3, q4, q5, q6, q7, q8, q9, q10, by rw [ea, eb, es], k2, ?_, hp, ?_⟩
        · split at k3
          · rename_i hl
            split at k3
            · rename_i z tf hv
              exact ⟨_, _, _, _, _, _, hl, hv, k3⟩
            · cases k3
          · cases k3
        · split at k1
          · rename_i hl
            obtain rfl := beq_iff_eq.mp k1
            exact ⟨_, _, _, hl⟩
          · cases k1
      · cases h9
    | _ => cases e
/-! ### static methods -/
def stTab : List (Str × Str × Str) := [("Net.of_text", "Net", "of_text")]
/-- where a told def stands: a class's __init__, a static method's def -/
def exAd (K : PySem.W.Frag) (x : Str) : Addr := match stTab.lookup x with
  | some (c, m) => He5.wf K (He.ga K c) "staticmethod" m
  | none => He.ma K (He.ga K x) "__init__"
theorem ad_init {K : PySem.W.Frag} {x : Str} (h : stTab.lookup x = none) : exAd K x = He.ma K (He.ga K x) "__init__" := by unfold exAd; rw [h]
theorem ad_st {K : PySem.W.Frag} {x c m : Str} (h : stTab.lookup x = some (c, m)) : exAd K x = He5.wf K (He.ga K c) "staticmethod" m := by unfold exAd; rw [h]
def stOf (name qual : Str) (st : Stmt) : ExV := some (name, qual, defArgs st, .stmts (defBody st), defScope st, mainGlobals, [], .none, .none, builtinsNs)
abbrev stD (c m qual : Str) (st : Stmt) : He5.DefA := { at_ := fun K => He5.wf K (He.ga K c) "staticmethod" m, name := m, qual := qual, params := defArgs st, body := defBody st, scope := defScope st }
def stB (K : PySem.W.Frag) (c m qual : Str) : Bool := He5.wrapB K (He.ga K c) "staticmethod" "staticmethod.__get__" m && (PySem.W.readsIn K (He.ga K c) (.type "type") && (stD c m qual (.Pass ⟨0, 0, 0, 0⟩)).ok K)
theorem cread_rd {K : PySem.W.Frag} {C : Addr} (N : PySem.W.readsIn K C (.type "type") = true) : ClX.CRead K C (.type "type") := by
  refine ⟨N, ?_⟩
  have h := N
  unfold PySem.W.readsIn at h
  obtain ⟨h, _⟩ := He.ba h
  obtain ⟨h, _⟩ := He.ba h
  obtain ⟨h, h3⟩ := He.ba h
  obtain ⟨_, h2⟩ := He.ba h
  unfold PySem.W.specialIn
  rw [beq_iff_eq.mp h2, Option.bind_some]
  exact beq_iff_eq.mp h3
theorem fnA_ex {K : PySem.W.Frag} {f : Addr} {name qual : Str} {st : Stmt} (e : exAt K f = stOf name qual st) : He5.fnA K f = some (name, qual, defArgs st, .stmts (defBody st), defScope st, mainGlobals, [], builtinsNs) := by
  unfold exAt at e
  unfold He5.fnA
  cases q : K.lookup f with
  | none => rw [q] at e; cases e
  | some o =>
    obtain ⟨oc, od, dt, osl⟩ := o
    rw [q] at e
    cases dt with
    | func fd =>
      unfold stOf at e
      simp only [Option.some.injEq, Prod.mk.injEq] at e
      obtain ⟨g1, g2, g3, g4, g5, g6, g7, g8, g9, g10⟩ := e
      have g7 : fd.closure = [] := List.map_eq_nil_iff.mp g7
      dsimp only
      rw [g1, g2, g3, g4, g5, g6, g7, g10]
    | _ => cases e
theorem stB_ok {K : PySem.W.Frag} {c m qual : Str} {st : Stmt} (h : stB K c m qual = true) (e : exAt K (He5.wf K (He.ga K c) "staticmethod" m) = stOf m qual st) :
    (∃ fd, L2.FunD K m qual (defArgs st) (defBody st) (defScope st) [] [] (He5.wf K (He.ga K c) "staticmethod" m) fd) ∧ L2.SMet K (He.ga K c) (.type "type") m (He.ma K (He.ga K c) m) (He5.wf K (He.ga K c) "staticmethod" m) ∧ ClX.CRead K (He.ga K c) (.type "type") := by
  obtain ⟨h1, h⟩ := He.ba h
  obtain ⟨h2, h3⟩ := He.ba h
  obtain ⟨w1, w2⟩ := He5.wrapB_ok h1
  exact ⟨He5.DefA.funD (d := stD c m qual st) (fnA_ex e) h3, ⟨w1, w2⟩, cread_rd h2⟩
/-! ### the Hook -/
abbrev AlX : Type := He.AlD × Bool × List ExV
/-- the objects reached in n steps, each once: the seen ones as bits -/
def bfsL (g : Addr → Option Obj) : List Addr → Nat → List Addr → List Addr → Nat × List Addr × List Addr
  | [], m, acc, nx => (m, acc, nx)
  | a :: r, m, acc, nx => match Nat.testBit m a with
    | true => bfsL g r m acc nx
    | false => match g a with
      | some o => bfsL g r (Nat.lor m (Nat.shiftLeft 1 a)) (a :: acc) (He.refsD o ++ nx)
      | none => bfsL g r m acc nx
def bfs (g : Addr → Option Obj) : Nat → Nat → List Addr → List Addr → List Addr
  | 0, _, acc, _ => acc
  | n + 1, m, acc, todo => match bfsL g todo m acc [] with
    | (m', acc', nx) => bfs g n m' acc' nx
def asX (g : Addr → Option Obj) (n : Nat) : List Addr := cStatics :: (bfs g (n + 1) 0 [] [mainGlobals]).reverse
def obsX (fa : List He.Fa) (fn : List He.DefD) (xb : PySem.W.Frag → Bool) (xs : List Str) (K : PySem.W.Frag) : AlX := (He.obsD fa fn K, xb K, xs.map fun x => exAt K (exAd K x))
def valX (fn : List He.DefD) (vs : List ExV) : AlX := (He.valD fn, true, vs)
def obsXG (n : Nat) (fa : List He.Fa) (fn : List He.DefD) (xb : PySem.W.Frag → Bool) (xs : List Str) (g : Addr → Option Obj) : AlX := obsX fa fn xb xs (He.frG g (asX g n))
def hookX (n : Nat) (fa : List He.Fa) (fn : List He.DefD) (xb : PySem.W.Frag → Bool) (xs : List Str) (vs : List ExV) : PySem.W.Hook where
  α := AlX
  obs := fun s => obsXG n fa fn xb xs s.heap.get?
  val := fun _ => valX fn vs
  says := fun _ h => ∃ K : PySem.W.Frag, K.In h ∧ obsX fa fn xb xs K = valX fn vs
  of := fun _ _ e => ⟨_, He.frG_in, e⟩
  keeps := fun _ _ _ ⟨K, hK, c⟩ k => ⟨K, PySem.W.Frag.In.keeps hK k, c⟩
theorem obsXG_eq {n : Nat} {fa : List He.Fa} {fn : List He.DefD} {xb : PySem.W.Frag → Bool} {xs : List Str} {vs : List ExV} {g : Addr → Option Obj} {s : Shared} (h : ∀ a, g a = s.heap.get? a) : obsXG n fa fn xb xs g = (hookX n fa fn xb xs vs).obs s := by
  have e : g = s.heap.get? := funext h
  rw [e] <;> rfl
end Lw
/-! Operations on trees. -/
namespace Wv
open PySem L2 Evl
section
variable {g : Gx} {c : Cc} {H H1 H2 H' : Hp} {σ : L2.St} {env e1 : List Sl} {ta tb te td ty tv tx : TE} {tt : TT} {t u tu tw : TS} {P : Dt → List Sl → Prop} {PL : List Dt → List Sl → Prop} {x y : V} {d : Dt} {E : De} {so : Option Addr} {O A O' : Addr → Prop} {K : PySem.W.Frag}
/-! ### a[i] -/
def fIx : Dt → Dt → (Dt → Prop) → Prop
  | .lst ds, .int i, k => ∃ d, atI ds i = some d ∧ k d
  | .tup ds, .int i, k => ∃ d, atI ds i = some d ∧ k d
  | .str z, .int i, k => ∃ n, atI z.cps.toList i = some n ∧ k (.str ⟨#[n]⟩)
  | .dct kvs, .str z, k => ∃ d, dlk kvs (.inr z) = some d ∧ k d
  | .dct kvs, .int i, k => ∃ d, dlk kvs (.inl i) = some d ∧ k d
  | _, _, _ => False
theorem at_rvs {xs : List V} {ds : List Dt} {i : Int} (r : Rvs so O H xs ds) (h : atI ds i = some d) : ∃ x, atI xs i = some x ∧ Rv so O H x d := by
  unfold atI at h ⊢
  rw [r.1]
  cases e : ixN ds.length i with
  | none => rw [e] at h; cases h
  | some j =>
    rw [e] at h
    have hj : ds[j]? = some d := h
    have hlt : j < xs.length := by rw [r.1]; exact (List.getElem?_eq_some_iff.mp hj).1
    exact ⟨xs[j], by simp [hlt], r.2 j _ d (by simp [hlt]) hj⟩
theorem rop_ix : Rop K (rIxA K) fIx := fun so O H x y d e hO r1 r2 PD f Q q => by
  cases d with
  | lst ds =>
    cases e with
    | int i =>
      obtain ⟨t, h, p⟩ := f
      obtain ⟨a, xs, rfl, ho, h0, rs, hz⟩ := lst_rv r1
      cases int_rv r2
      obtain ⟨v, w1, w2⟩ := at_rvs rs h
      exact .inl (.inl ⟨a, xs, i, v, rfl, rfl, .inl (.inl h0), w1, q v t H p (Ex.refl H) w2⟩)
    | _ => exact f.elim
  | tup ds =>
    cases e with
    | int i =>
      obtain ⟨t, h, p⟩ := f
      obtain ⟨a, xs, rfl, ho, h0, rs, hz⟩ := tup_rv r1
      cases int_rv r2
      obtain ⟨v, w1, w2⟩ := at_rvs rs h
      exact .inl (.inr (.inl ⟨a, xs, i, v, rfl, rfl, .inl (.inl h0), w1, q v t H p (Ex.refl H) w2⟩))
    | _ => exact f.elim
  | str z =>
    cases e with
    | int i =>
      obtain ⟨n, h, p⟩ := f
      obtain ⟨rfl, hz⟩ := str_rv r1
      cases int_rv r2
      exact .inl (.inr (.inr ⟨z, i, n, rfl, rfl, Nat.le_trans hz (by decide), h, q _ _ H p (Ex.refl H) (.str (by show 1 ≤ Zz; decide))⟩))
    | _ => exact f.elim
  | dct kvs =>
    obtain ⟨a, xs, rfl, ho, h0, tb, hz⟩ := dct_rv r1
    have go : ∀ (k : Key) t, y = kV k → dlk kvs k = some t → PD t → rIxA K (.ref a) y H Q := fun k t e1 h p => by
      have tv := tb.val (k := k)
      rw [h] at tv
      obtain ⟨v, w1, w2⟩ := tv
      exact .inr ⟨a, v, rfl, .inl ⟨xs, k, h0, e1, w1.symm⟩, q v t H p (Ex.refl H) w2⟩
    cases e with
    | str z =>
      obtain ⟨t, h, p⟩ := f
      exact go (.inr z) t (str_rv r2).1 h p
    | int i =>
      obtain ⟨t, h, p⟩ := f
      exact go (.inl i) t (int_rv r2) h p
    | _ => exact f.elim
  | _ => exact f.elim
/-! ### numbers -/
def fI (C : Int → Int → Prop) (w : Int → Int → Dt) : Dt → Dt → (Dt → Prop) → Prop
  | .int i, .int j, k => C i j ∧ k (w i j)
  | _, _, _ => False
theorem rop_I {C : Int → Int → Prop} {w : Int → Int → V} {w' : Int → Int → Dt} (h : ∀ i j so O H, Rv so O H (w i j) (w' i j)) : Rop K (rI C w) (fI C w') := fun so O H x y d e hO r1 r2 PD f Q q => by
  cases d with
  | int i =>
    cases e with
    | int j =>
      cases int_rv r1
      cases int_rv r2
      exact ⟨i, j, rfl, rfl, f.1, q _ _ H f.2 (Ex.refl H) (h i j so O H)⟩
    | _ => exact f.elim
  | _ => exact f.elim
def fJ (w : Int → Int → Dt) : Dt → Dt → (Dt → Prop) → Prop
  | .int i, .int j, k => k (w i j)
  | _, _, _ => False
theorem rop_J {w : Int → Int → V} {w' : Int → Int → Dt} (h : ∀ i j so O H, Rv so O H (w i j) (w' i j)) : Rop K (rI0 w) (fJ w') := fun so O H x y d e hO r1 r2 PD f Q q => by
  cases d with
  | int i =>
    cases e with
    | int j =>
      cases int_rv r1
      cases int_rv r2
      exact ⟨i, j, rfl, rfl, q _ _ H f (Ex.refl H) (h i j so O H)⟩
    | _ => exact f.elim
  | _ => exact f.elim
theorem rop_sub : Rop K (rI0 fun i j => .int (i - j)) (fJ fun i j => .int (i - j)) := rop_J fun _ _ _ _ _ => .int _
theorem rop_lt : Rop K (rI0 fun i j => .bl (decide (i < j))) (fJ fun i j => .bl (decide (i < j))) := rop_J fun _ _ _ _ _ => .bl _
theorem rop_ge : Rop K (rI0 fun i j => .bl (decide (j ≤ i))) (fJ fun i j => .bl (decide (j ≤ i))) := rop_J fun _ _ _ _ _ => .bl _
theorem rop_gt : Rop K (rI0 fun i j => .bl (decide (j < i))) (fJ fun i j => .bl (decide (j < i))) := rop_J fun _ _ _ _ _ => .bl _
theorem rop_le : Rop K (rI0 fun i j => .bl (decide (i ≤ j))) (fJ fun i j => .bl (decide (i ≤ j))) := rop_J fun _ _ _ _ _ => .bl _
theorem rop_mod : Rop K (rI (fun _ j => j ≠ 0) fun i j => .int (i.fmod j)) (fI (fun _ j => j ≠ 0) fun i j => .int (i.fmod j)) := rop_I fun _ _ _ _ _ => .int _
theorem rop_div : Rop K (rI CDivN fun i j => .int (i.fdiv j)) (fI CDivN fun i j => .int (i.fdiv j)) := rop_I fun _ _ _ _ _ => .int _
/-- + : numbers, texts, lists, tuples -/
def fAdd : Dt → Dt → (Dt → Prop) → Prop
  | .int i, .int j, k => k (.int (i + j))
  | .str a, .str b, k => a.length + b.length ≤ Zz ∧ k (.str (a ++ b))
  | .lst a, .lst b, k => a.length + b.length ≤ Zz ∧ k (.lst (a ++ b))
  | .tup a, .tup b, k => a.length + b.length ≤ Zz ∧ k (.tup (a ++ b))
  | _, _, _ => False
theorem Rvs.app {xs ys : List V} {ds es : List Dt} (h : Rvs so O H xs ds) (k : Rvs so O H ys es) : Rvs so O H (xs ++ ys) (ds ++ es) := by
  refine ⟨by simp [h.1, k.1], fun i x d e1 e2 => ?_⟩
  rw [List.getElem?_append] at e1 e2
  by_cases hi : i < xs.length
  · rw [if_pos hi] at e1
    rw [if_pos (by rw [← h.1]; exact hi)] at e2
    exact h.2 i x d e1 e2
  · rw [if_neg hi] at e1
    rw [if_neg (by rw [← h.1]; exact hi), ← h.1] at e2
    exact k.2 _ x d e1 e2
theorem zl {n : Nat} (h : n ≤ Zz) : n ≤ sizeLine := Nat.le_trans h (by decide)
theorem str_app_len (a b : Str) : (a ++ b).length = a.length + b.length := by
  show (a.cps ++ b.cps).size = _
  rw [Array.size_append]
  rfl
theorem new_lst {p : Addr} {xs : List V} {ds : List Dt} (hO : ∀ a, O a → H a ≠ none) (hp : H p = none) (r : Rvs so O H xs ds) (hz : ds.length ≤ Zz) : Rv so O (upd H p (.lst xs)) (.ref p) (.lst ds) :=
  .lst (fun z => hO p z hp) upd_same r.1 hz fun i x d h1 h2 => (r.2 i x d h1 h2).ex (Ex.new hp)
theorem new_tup {p : Addr} {xs : List V} {ds : List Dt} (hO : ∀ a, O a → H a ≠ none) (hp : H p = none) (r : Rvs so O H xs ds) (hz : ds.length ≤ Zz) : Rv so O (upd H p (.tup xs)) (.ref p) (.tup ds) :=
  .tup (fun z => hO p z hp) upd_same r.1 hz fun i x d h1 h2 => (r.2 i x d h1 h2).ex (Ex.new hp)
theorem rop_add : Rop K (rAddU K) fAdd := fun so O H x y d e hO r1 r2 PD f Q q => by
  cases d with
  | int i =>
    cases e with
    | int j => cases int_rv r1; cases int_rv r2; exact .inl ⟨i, j, rfl, rfl, q _ _ H f (Ex.refl H) (.int _)⟩
    | _ => exact f.elim
  | str a =>
    cases e with
    | str b =>
      obtain ⟨h, p⟩ := f
      obtain ⟨rfl, _⟩ := str_rv r1
      obtain ⟨rfl, _⟩ := str_rv r2
      exact .inr (.inr (.inr ⟨a, b, rfl, rfl, zl h, q _ _ H p (Ex.refl H) (.str (by rw [str_app_len]; exact h))⟩))
    | _ => exact f.elim
  | lst a =>
    cases e with
    | lst b =>
      obtain ⟨h, p⟩ := f
      obtain ⟨a1, xs, rfl, _, h1, rs1, _⟩ := lst_rv r1
      obtain ⟨b1, ys, rfl, _, h2, rs2, _⟩ := lst_rv r2
      exact .inr (.inl ⟨a1, b1, xs, ys, rfl, rfl, h1, h2, zl (by rw [rs1.1, rs2.1]; exact h), fun p' hp => q _ _ _ p (Ex.new hp) (new_lst hO hp (rs1.app rs2) (by rw [List.length_append]; exact h))⟩)
    | _ => exact f.elim
  | tup a =>
    cases e with
    | tup b =>
      obtain ⟨h, p⟩ := f
      obtain ⟨a1, xs, rfl, _, h1, rs1, _⟩ := tup_rv r1
      obtain ⟨b1, ys, rfl, _, h2, rs2, _⟩ := tup_rv r2
      refine .inr (.inr (.inl ⟨a1, b1, xs, ys, rfl, rfl, .inl (.inl h1), .inl (.inl h2), zl (by rw [rs1.1, rs2.1]; exact h), fun z => ?_, fun _ z => ?_, fun _ _ p' hp => q _ _ _ p (Ex.new hp) (new_tup hO hp (rs1.app rs2) (by rw [List.length_append]; exact h))⟩))
      · have : a = [] := List.eq_nil_of_length_eq_zero (by rw [← rs1.1, z]; rfl)
        subst this
        exact q _ _ H p (Ex.refl H) (by rw [List.nil_append]; exact r2)
      · have : b = [] := List.eq_nil_of_length_eq_zero (by rw [← rs2.1, z]; rfl)
        subst this
        exact q _ _ H p (Ex.refl H) (by rw [List.append_nil]; exact r1)
    | _ => exact f.elim
  | _ => exact f.elim
theorem Rvs.rep {xs : List V} {ds : List Dt} (h : Rvs so O H xs ds) : ∀ m : Nat, Rvs so O H (List.replicate m xs).flatten (List.replicate m ds).flatten
  | 0 => Rvs.nil
  | m + 1 => by
    rw [List.replicate_succ, List.replicate_succ, List.flatten_cons, List.flatten_cons]
    exact h.app (h.rep m)
/-- * : numbers -/
def fMul : Dt → Dt → (Dt → Prop) → Prop
  | .int i, .int j, k => CMul i j ∧ k (.int (i * j))
  | .lst ds, .int n, k => 0 ≤ n ∧ n ≤ 100000 ∧ ds.length * n.toNat ≤ Zz ∧ k (.lst ((List.replicate n.toNat ds).flatten))
  | _, _, _ => False
theorem rop_mul : Rop K rMulU fMul := fun so O H x y d e hO r1 r2 PD f Q q => by
  cases d with
  | int i =>
    cases e with
    | int j => cases int_rv r1; cases int_rv r2; exact .inl ⟨i, j, rfl, rfl, f.1, q _ _ H f.2 (Ex.refl H) (.int _)⟩
    | _ => exact f.elim
  | lst ds =>
    cases e with
    | int n =>
      obtain ⟨h0, h1, h2, p⟩ := f
      obtain ⟨a1, xs, rfl, _, h3, rs1, _⟩ := lst_rv r1
      cases int_rv r2
      have hl : ∀ m : Nat, ((List.replicate m ds).flatten).length = ds.length * m := fun m => by simp [Nat.mul_comm]
      refine .inr (.inl ⟨a1, n, xs, rfl, rfl, h3, by omega, by omega, zl (by rw [rs1.1]; exact h2), fun p' hp => q _ _ _ p (Ex.new hp) (new_lst hO hp (rs1.rep n.toNat) (by rw [hl]; exact h2))⟩)
    | _ => exact f.elim
  | _ => exact f.elim
/-! ### ==, in -/
def flD : Dt → Bool
  | .non => true | .bl _ => true | .int _ => true | .str _ => true | _ => false
def eqF : Dt → Dt → Bool
  | .non, .non => true
  | .bl a, .bl b => a == b
  | .bl a, .int b => (if a then 1 else 0) == b
  | .int a, .bl b => a == (if b then 1 else 0)
  | .int a, .int b => a == b
  | .str a, .str b => a == b
  | _, _ => false
theorem fl_rv (r : Rv so O H x d) (h : flD d = true) : flatV x = true := by
  cases r <;> first | rfl | cases h
theorem eq_rv {e : Dt} (r1 : Rv so O H x d) (r2 : Rv so O H y e) (h1 : flD d = true) (h2 : flD e = true) : eqV x y = eqF d e := by
  cases r1 <;> first | (cases h1; done) | (cases r2 <;> first | (cases h2; done) | rfl)
mutual
def toP : Dt → PyData
  | .non => .none
  | .bl b => .bool b
  | .int i => .int i
  | .str x => .str x
  | .lst xs => .list (toPs xs)
  | .tup xs => .tuple (toPs xs)
  | .dct _ => .dict []
  | .ins _ _ => .dict []
  | .st => .dict []
  | .dtn _ _ => .dict []
  | .dto _ _ _ => .dict []
  | .ob _ _ => .dict []
  | .ad _ => .dict []
  | .opq => .dict []
def toPs : List Dt → List PyData
  | [] => []
  | x :: xs => toP x :: toPs xs
end
theorem rvs_dp {P : Dt → Prop} : ∀ {xs : List V} {ds : List Dt}, xs.length = ds.length → (∀ (i : Nat) x d, xs[i]? = some x → ds[i]? = some d → (toP d).canLay0 = true → Dp K H x (toP d)) → PyData.canLayAll0 (toPs ds) = true → DpAll K H xs (toPs ds)
  | [], [], _, _, _ => .nil
  | [], _ :: _, h, _, _ => by simp at h
  | _ :: _, [], h, _, _ => by simp at h
  | x :: xs, d :: ds, h, he, hc => by
    unfold toPs at hc ⊢
    unfold PyData.canLayAll0 at hc
    obtain ⟨h1, h2⟩ := Bool.and_eq_true_iff.mp hc
    exact .cons (he 0 x d rfl rfl h1) (rvs_dp (P := P) (by simpa using h) (fun i x d e1 e2 => he (i + 1) x d e1 e2) h2)
theorem rv_dp (r : Rv so O H x d) (h : (toP d).canLay0 = true) : Dp K H x (toP d) := by
  induction r with
  | non => unfold toP; exact .non
  | bl b => unfold toP; exact .bl b
  | int i => unfold toP; exact .int i
  | str hz => unfold toP; exact .str _
  | lst ho h1 hl hz he ih =>
    unfold toP at h ⊢
    unfold PyData.canLay0 at h
    exact .lst (.inl (.inl h1)) (rvs_dp (P := fun _ => True) hl ih h)
  | tup ho h1 hl hz he ih =>
    unfold toP at h ⊢
    unfold PyData.canLay0 at h
    exact .tup (.inl (.inl h1)) (rvs_dp (P := fun _ => True) hl ih h)
  | dct => unfold toP at h; unfold PyData.canLay0 at h; cases h
  | ins => unfold toP at h; unfold PyData.canLay0 at h; cases h
  | st => unfold toP at h; unfold PyData.canLay0 at h; cases h
  | dtn => unfold toP at h; unfold PyData.canLay0 at h; cases h
  | dto => unfold toP at h; unfold PyData.canLay0 at h; cases h
  | ob => unfold toP at h; unfold PyData.canLay0 at h; cases h
  | ad => unfold toP at h; unfold PyData.canLay0 at h; cases h
  | opq => unfold toP at h; unfold PyData.canLay0 at h; cases h
def shp (d : Dt) : Prop := SeqAt.shaped (toP d) = true
/-- a value of a dict that may be compared -/
def shk (d : Dt) : Prop := shp d ∧ (toP d).depth ≤ 60
def hitD (es ds : List (Key × Dt)) : Bool := ds.all fun p => match dlk es p.1 with
  | some u => PyData.eqv (toP p.2) (toP u)
  | none => false
/-- equal dicts -/
def eqK (ks ls : List (Key × Dt)) : Bool := ks.length == ls.length && hitD ls ks
theorem lkP_map (es : List (Key × Dt)) (k : Key) : lkP (es.map fun p => (p.1, toP p.2)) k = (dlk es k).map toP := by
  unfold lkP dlk
  rw [List.find?_map, Option.map_map, Option.map_map]
  rfl
theorem hitP_map (es ds : List (Key × Dt)) : hitP (es.map fun p => (p.1, toP p.2)) (ds.map fun p => (p.1, toP p.2)) = hitD es ds := by
  unfold hitP hitD
  rw [List.all_map]
  congr 1
  funext p
  show (match lkP (es.map fun p => (p.1, toP p.2)) p.1 with | some u => PyData.eqv (toP p.2) u | none => false) = _
  rw [lkP_map]
  cases dlk es p.1 <;> rfl
theorem tb_dpk : ∀ {xs : List (Key × V)} {ds : List (Key × Dt)}, Tb so O H xs ds → (∀ kv ∈ ds, shk kv.2) → (∀ (i : Nat) k x k' d, xs[i]? = some (k, x) → ds[i]? = some (k', d) → (toP d).canLay0 = true → Dp K H x (toP d)) → DpK K H xs (ds.map fun p => (p.1, toP p.2))
  | [], [], _, _, _ => .nil
  | [], _ :: _, h, _, _ => by have := h.len; simp at this
  | _ :: _, [], h, _, _ => by have := h.len; simp at this
  | p :: xs, q :: ds, h, hs, hd => by
    obtain ⟨h1, h2, h3⟩ := h.tail
    have s0 := hs q (List.mem_cons_self ..)
    exact .cons ⟨h1, hd 0 p.1 p.2 q.1 q.2 rfl rfl (SeqAt.canLay_of_shaped s0.1), s0.1, s0.2⟩ (tb_dpk h3 (fun kv hkv => hs kv (List.mem_cons_of_mem _ hkv)) fun i k x k' d e1 e2 => hd (i + 1) k x k' d e1 e2)
def fEq : Dt → Dt → (Dt → Prop) → Prop
  | .int i, .int j, k => k (.bl (decide (i = j)))
  | .str a, .str b, k => k (.bl (decide (a = b)))
  | .bl a, .bl b, k => k (.bl (decide (a = b)))
  | .dct ks, .dct ls, k => (∀ kv ∈ ks, shk kv.2) ∧ (∀ kv ∈ ls, shk kv.2) ∧ k (.bl (eqK ks ls))
  | d, e, k => shp d ∧ shp e ∧ k (.bl (PyData.eqv (toP d) (toP e)))
def fNe : Dt → Dt → (Dt → Prop) → Prop
  | .int i, .int j, k => k (.bl (!decide (i = j)))
  | .str a, .str b, k => k (.bl (!decide (a = b)))
  | .bl a, .bl b, k => k (.bl (!decide (a = b)))
  | .dct ks, .dct ls, k => (∀ kv ∈ ks, shk kv.2) ∧ (∀ kv ∈ ls, shk kv.2) ∧ k (.bl (!eqK ks ls))
  | d, e, k => shp d ∧ shp e ∧ k (.bl (!PyData.eqv (toP d) (toP e)))
theorem can_of {d : Dt} (h : shp d) : (toP d).canLay0 = true := SeqAt.canLay_of_shaped h
theorem rop_eq : Rop K (rEqU K) fEq := fun so O H x y d e hO r1 r2 PD f Q q => by
  have gen : shp d ∧ shp e ∧ PD (.bl (PyData.eqv (toP d) (toP e))) → rEqU K x y H Q := fun ⟨h1, h2, p⟩ =>
    .inr (.inr (.inl ⟨toP d, toP e, rv_dp r1 (can_of h1), rv_dp r2 (can_of h2), h1, h2, q _ _ H p (Ex.refl H) (.bl _)⟩))
  unfold fEq at f
  split at f
  · cases int_rv r1; cases int_rv r2
    rename_i i j
    refine .inl ⟨rfl, q (.bl (decide (V.int i = V.int j))) _ H f (Ex.refl H) ?_⟩
    rw [show decide (V.int i = V.int j) = decide (i = j) from decide_eq_decide.mpr ⟨V.int.inj, fun h => by rw [h]⟩]
    exact .bl _
  · obtain ⟨rfl, _⟩ := str_rv r1
    obtain ⟨rfl, _⟩ := str_rv r2
    rename_i i j _ _
    refine .inl ⟨rfl, q (.bl (decide (V.str i = V.str j))) _ H f (Ex.refl H) ?_⟩
    rw [show decide (V.str i = V.str j) = decide (i = j) from decide_eq_decide.mpr ⟨V.str.inj, fun h => by rw [h]⟩]
    exact .bl _
  · cases r1; cases r2
    rename_i i j
    refine .inl ⟨rfl, q (.bl (decide (V.bl i = V.bl j))) _ H f (Ex.refl H) ?_⟩
    rw [show decide (V.bl i = V.bl j) = decide (i = j) from decide_eq_decide.mpr ⟨V.bl.inj, fun h => by rw [h]⟩]
    exact .bl _
  · rename_i ks ls
    obtain ⟨h1, h2, p⟩ := f
    obtain ⟨a, xs, rfl, _, ra, ta, _⟩ := dct_rv r1
    obtain ⟨b, ys, rfl, _, rb, tb, _⟩ := dct_rv r2
    refine .inr (.inr (.inr ⟨a, b, xs, ys, _, _, rfl, rfl, ra, rb, tb_dpk ta h1 fun i k x k' d e1 e2 hc => rv_dp (ta.2 i k x k' d e1 e2) hc, tb_dpk tb h2 fun i k x k' d e1 e2 hc => rv_dp (tb.2 i k x k' d e1 e2) hc, ?_⟩))
    rw [hitP_map, ta.len, tb.len]
    exact q _ _ H p (Ex.refl H) (.bl _)
  · exact gen f
theorem rop_ne : Rop K (rNeU K) fNe := fun so O H x y d e hO r1 r2 PD f Q q => by
  have gen : shp d ∧ shp e ∧ PD (.bl (!PyData.eqv (toP d) (toP e))) → rNeU K x y H Q := fun ⟨h1, h2, p⟩ =>
    .inr (.inl ⟨toP d, toP e, rv_dp r1 (can_of h1), rv_dp r2 (can_of h2), h1, h2, q _ _ H p (Ex.refl H) (.bl _)⟩)
  unfold fNe at f
  split at f
  · cases int_rv r1; cases int_rv r2
    rename_i i j
    refine .inl ⟨rfl, q (.bl (!decide (V.int i = V.int j))) _ H f (Ex.refl H) ?_⟩
    rw [show decide (V.int i = V.int j) = decide (i = j) from decide_eq_decide.mpr ⟨V.int.inj, fun h => by rw [h]⟩]
    exact .bl _
  · obtain ⟨rfl, _⟩ := str_rv r1
    obtain ⟨rfl, _⟩ := str_rv r2
    rename_i i j _ _
    refine .inl ⟨rfl, q (.bl (!decide (V.str i = V.str j))) _ H f (Ex.refl H) ?_⟩
    rw [show decide (V.str i = V.str j) = decide (i = j) from decide_eq_decide.mpr ⟨V.str.inj, fun h => by rw [h]⟩]
    exact .bl _
  · cases r1; cases r2
    rename_i i j
    refine .inl ⟨rfl, q (.bl (!decide (V.bl i = V.bl j))) _ H f (Ex.refl H) ?_⟩
    rw [show decide (V.bl i = V.bl j) = decide (i = j) from decide_eq_decide.mpr ⟨V.bl.inj, fun h => by rw [h]⟩]
    exact .bl _
  · rename_i ks ls
    obtain ⟨h1, h2, p⟩ := f
    obtain ⟨a, xs, rfl, _, ra, ta, _⟩ := dct_rv r1
    obtain ⟨b, ys, rfl, _, rb, tb, _⟩ := dct_rv r2
    refine .inr (.inr ⟨a, b, xs, ys, _, _, rfl, rfl, ra, rb, tb_dpk ta h1 fun i k x k' d e1 e2 hc => rv_dp (ta.2 i k x k' d e1 e2) hc, tb_dpk tb h2 fun i k x k' d e1 e2 hc => rv_dp (tb.2 i k x k' d e1 e2) hc, ?_⟩)
    rw [hitP_map, ta.len, tb.len]
    exact q _ _ H p (Ex.refl H) (.bl _)
  · exact gen f
/-- x in a list, a tuple of flat items; a key in a dict; a sign in a text -/
def fIn (neg : Bool) : Dt → Dt → (Dt → Prop) → Prop
  | x, .lst ds, k => flD x = true ∧ ds.all flD = true ∧ k (.bl (if neg then !ds.any fun e => eqF e x else ds.any fun e => eqF e x))
  | x, .tup ds, k => flD x = true ∧ ds.all flD = true ∧ k (.bl (if neg then !ds.any fun e => eqF e x else ds.any fun e => eqF e x))
  | .str z, .dct kvs, k => k (.bl (if neg then !(dlk kvs (.inr z)).isSome else (dlk kvs (.inr z)).isSome))
  | .int i, .dct kvs, k => k (.bl (if neg then !(dlk kvs (.inl i)).isSome else (dlk kvs (.inl i)).isSome))
  | .str z, .str w, k => ∃ n, z = ⟨#[n]⟩ ∧ k (.bl (if neg then !decide (n ∈ w.cps.toList) else decide (n ∈ w.cps.toList)))
  | _, _, _ => False
theorem in_rvs (r : Rv so O H x d) (h : flD d = true) : ∀ {xs : List V} {ds : List Dt}, Rvs so O H xs ds → ds.all flD = true → xs.all flatV = true ∧ inV x xs = ds.any fun e => eqF e d
  | [], [], _, _ => ⟨rfl, rfl⟩
  | [], _ :: _, h, _ => by have := h.1; simp at this
  | _ :: _, [], h, _ => by have := h.1; simp at this
  | y :: xs, e :: ds, rs, ha => by
    have r0 := rs.2 0 y e rfl rfl
    have rt : Rvs so O H xs ds := ⟨by have := rs.1; simpa using this, fun i x d e1 e2 => rs.2 (i + 1) x d e1 e2⟩
    rw [List.all_cons] at ha
    obtain ⟨h1, h2⟩ := Bool.and_eq_true_iff.mp ha
    obtain ⟨i1, i2⟩ := in_rvs r h rt h2
    refine ⟨by rw [List.all_cons, fl_rv r0 h1, i1]; rfl, ?_⟩
    unfold inV at i2 ⊢
    rw [List.any_cons, List.any_cons, i2, eq_rv r0 r h1 h]
theorem rop_in : Rop K (rInA K) (fIn false) := fun so O H x y d e hO r1 r2 PD f Q q => by
  unfold fIn at f
  split at f
  · obtain ⟨h1, h2, p⟩ := f
    obtain ⟨a, xs, rfl, ho, h0, rs, hz⟩ := lst_rv r2
    obtain ⟨i1, i2⟩ := in_rvs r1 h1 rs h2
    exact .inl ⟨a, xs, rfl, .inl (.inl (.inl h0)), fl_rv r1 h1, i1, by rw [i2]; exact q _ _ H p (Ex.refl H) (.bl _)⟩
  · obtain ⟨h1, h2, p⟩ := f
    obtain ⟨a, xs, rfl, ho, h0, rs, hz⟩ := tup_rv r2
    obtain ⟨i1, i2⟩ := in_rvs r1 h1 rs h2
    exact .inl ⟨a, xs, rfl, .inr (.inl (.inl h0)), fl_rv r1 h1, i1, by rw [i2]; exact q _ _ H p (Ex.refl H) (.bl _)⟩
  · obtain ⟨rfl, _⟩ := str_rv r1
    obtain ⟨a, xs, rfl, ho, h0, tb, hz⟩ := dct_rv r2
    exact .inr (.inl ⟨a, _, rfl, .inl ⟨xs, .inr _, h0, rfl, rfl⟩, by rw [isSome_val tb]; exact q _ _ H f (Ex.refl H) (.bl _)⟩)
  · cases int_rv r1
    obtain ⟨a, xs, rfl, ho, h0, tb, hz⟩ := dct_rv r2
    exact .inr (.inl ⟨a, _, rfl, .inl ⟨xs, .inl _, h0, rfl, rfl⟩, by rw [isSome_val tb]; exact q _ _ H f (Ex.refl H) (.bl _)⟩)
  · obtain ⟨n, e, p⟩ := f
    obtain ⟨rfl, _⟩ := str_rv r1
    obtain ⟨rfl, _⟩ := str_rv r2
    exact .inr (.inr ⟨n, _, by rw [e], rfl, q _ _ H p (Ex.refl H) (.bl _)⟩)
  · exact f.elim
theorem rop_ni : Rop K (rNiA K) (fIn true) := fun so O H x y d e hO r1 r2 PD f Q q => by
  unfold fIn at f
  split at f
  · obtain ⟨h1, h2, p⟩ := f
    obtain ⟨a, xs, rfl, ho, h0, rs, hz⟩ := lst_rv r2
    obtain ⟨i1, i2⟩ := in_rvs r1 h1 rs h2
    exact .inl ⟨a, xs, rfl, .inl (.inl (.inl h0)), fl_rv r1 h1, i1, by rw [i2]; exact q _ _ H p (Ex.refl H) (.bl _)⟩
  · obtain ⟨h1, h2, p⟩ := f
    obtain ⟨a, xs, rfl, ho, h0, rs, hz⟩ := tup_rv r2
    obtain ⟨i1, i2⟩ := in_rvs r1 h1 rs h2
    exact .inl ⟨a, xs, rfl, .inr (.inl (.inl h0)), fl_rv r1 h1, i1, by rw [i2]; exact q _ _ H p (Ex.refl H) (.bl _)⟩
  · obtain ⟨rfl, _⟩ := str_rv r1
    obtain ⟨a, xs, rfl, ho, h0, tb, hz⟩ := dct_rv r2
    exact .inr (.inl ⟨a, _, rfl, .inl ⟨xs, .inr _, h0, rfl, rfl⟩, by rw [isSome_val tb]; exact q _ _ H f (Ex.refl H) (.bl _)⟩)
  · cases int_rv r1
    obtain ⟨a, xs, rfl, ho, h0, tb, hz⟩ := dct_rv r2
    exact .inr (.inl ⟨a, _, rfl, .inl ⟨xs, .inl _, h0, rfl, rfl⟩, by rw [isSome_val tb]; exact q _ _ H f (Ex.refl H) (.bl _)⟩)
  · obtain ⟨n, e, p⟩ := f
    obtain ⟨rfl, _⟩ := str_rv r1
    obtain ⟨rfl, _⟩ := str_rv r2
    exact .inr (.inr ⟨n, _, by rw [e], rfl, q _ _ H p (Ex.refl H) (.bl _)⟩)
  · exact f.elim
end
end Wv
/-! Calls of built-ins, slices, displays, targets, walks over trees. -/
namespace Wv
open PySem L2 Evl
section
variable {g : Gx} {c : Cc} {H H1 H2 H' : Hp} {σ : L2.St} {env e1 : List Sl} {ta tb te td ty tv tx : TE} {tt : TT} {t u tu tw : TS} {P : Dt → List Sl → Prop} {PL : List Dt → List Sl → Prop} {x y : V} {d : Dt} {E : De} {so : Option Addr} {O A O' : Addr → Prop} {K : PySem.W.Frag}
/-! ### len, all, any, sum, max, min, int -/
def fLen : List Dt → (Dt → Prop) → Prop
  | [.lst ds], k => k (.int ds.length)
  | [.tup ds], k => k (.int ds.length)
  | [.dct ds], k => k (.int ds.length)
  | [.str z], k => k (.int z.length)
  | _, _ => False
theorem rcl_len : Rcl K (rLenA K) fLen := fun so O H xs ds hO r PD f Q q => by
  unfold fLen at f
  split at f
  · obtain ⟨x, rfl, r1⟩ := one_rv r
    obtain ⟨a, xs, rfl, _, h, rs, _⟩ := lst_rv r1
    exact .inl ⟨a, xs, rfl, .inl (.inl (.inl h)), by rw [rs.1]; exact q _ _ H f (Ex.refl H) (.int _)⟩
  · obtain ⟨x, rfl, r1⟩ := one_rv r
    obtain ⟨a, xs, rfl, _, h, rs, _⟩ := tup_rv r1
    exact .inl ⟨a, xs, rfl, .inr (.inl (.inl h)), by rw [rs.1]; exact q _ _ H f (Ex.refl H) (.int _)⟩
  · obtain ⟨x, rfl, r1⟩ := one_rv r
    obtain ⟨a, xs, rfl, _, h, tb, _⟩ := dct_rv r1
    exact .inr (.inl ⟨a, xs, rfl, h, by rw [tb.len]; exact q _ _ H f (Ex.refl H) (.int _)⟩)
  · obtain ⟨x, rfl, r1⟩ := one_rv r
    obtain ⟨rfl, hz⟩ := str_rv r1
    exact .inr (.inr ⟨_, rfl, zl hz, q _ _ H f (Ex.refl H) (.int _)⟩)
  · exact f.elim
theorem bl_rvs : ∀ {xs : List V} {bs : List Bool}, Rvs so O H xs (bs.map Dt.bl) → xs = bs.map V.bl
  | [], [], _ => rfl
  | [], _ :: _, h => by have := h.1; simp at this
  | _ :: _, [], h => by have := h.1; simp at this
  | x :: xs, b :: bs, h => by
    have r0 := h.2 0 x (.bl b) rfl rfl
    cases r0
    rw [List.map_cons, bl_rvs (xs := xs) (bs := bs) ⟨by have := h.1; simpa using this, fun i x d e1 e2 => h.2 (i + 1) x d e1 e2⟩]
theorem int_rvs : ∀ {xs : List V} {bs : List Int}, Rvs so O H xs (bs.map Dt.int) → xs = bs.map V.int
  | [], [], _ => rfl
  | [], _ :: _, h => by have := h.1; simp at this
  | _ :: _, [], h => by have := h.1; simp at this
  | x :: xs, b :: bs, h => by
    have r0 := h.2 0 x (.int b) rfl rfl
    cases r0
    rw [List.map_cons, int_rvs (xs := xs) (bs := bs) ⟨by have := h.1; simpa using this, fun i x d e1 e2 => h.2 (i + 1) x d e1 e2⟩]
theorem str_rvs : ∀ {xs : List V} {bs : List Str}, Rvs so O H xs (bs.map Dt.str) → xs = bs.map V.str ∧ ∀ z ∈ bs, z.length ≤ Zz
  | [], [], _ => ⟨rfl, fun z h => by cases h⟩
  | [], _ :: _, h => by have := h.1; simp at this
  | _ :: _, [], h => by have := h.1; simp at this
  | x :: xs, b :: bs, h => by
    obtain ⟨rfl, hz⟩ := str_rv (h.2 0 x (.str b) rfl rfl)
    obtain ⟨i1, i2⟩ := str_rvs (xs := xs) (bs := bs) ⟨by have := h.1; simpa using this, fun i x d e1 e2 => h.2 (i + 1) x d e1 e2⟩
    rw [List.map_cons, i1]
    refine ⟨rfl, fun z hm => ?_⟩
    rcases List.mem_cons.mp hm with e | hm
    · rw [e]; exact hz
    · exact i2 z hm
theorem rvs_str {bs : List Str} (h : ∀ z ∈ bs, z.length ≤ Zz) : Rvs so O H (bs.map V.str) (bs.map Dt.str) := by
  refine ⟨by simp, fun i x d h1 h2 => ?_⟩
  rw [List.getElem?_map] at h1 h2
  cases e : bs[i]? with
  | none => rw [e] at h1; cases h1
  | some z => rw [e] at h1 h2; cases h1; cases h2; exact .str (h z (List.mem_of_getElem? e))
def fAll : List Dt → (Dt → Prop) → Prop := fun ds k => ∃ bs : List Bool, ds = [.lst (bs.map Dt.bl)] ∧ k (.bl (bs.all id))
def fAny : List Dt → (Dt → Prop) → Prop := fun ds k => ∃ bs : List Bool, ds = [.lst (bs.map Dt.bl)] ∧ k (.bl (bs.any id))
theorem rcl_all : Rcl K (rAll K) fAll := fun so O H xs ds hO r PD ⟨bs, e, p⟩ Q q => by
  subst e
  obtain ⟨x, rfl, r1⟩ := one_rv r
  obtain ⟨a, xs, rfl, _, h, rs, _⟩ := lst_rv r1
  exact ⟨a, bs, rfl, by rw [← bl_rvs rs]; exact .inl (.inl h), q _ _ H p (Ex.refl H) (.bl _)⟩
theorem rcl_any : Rcl K (rAny K) fAny := fun so O H xs ds hO r PD ⟨bs, e, p⟩ Q q => by
  subst e
  obtain ⟨x, rfl, r1⟩ := one_rv r
  obtain ⟨a, xs, rfl, _, h, rs, _⟩ := lst_rv r1
  exact ⟨a, bs, rfl, by rw [← bl_rvs rs]; exact .inl (.inl h), q _ _ H p (Ex.refl H) (.bl _)⟩
def fSum : List Dt → (Dt → Prop) → Prop := fun ds k => ∃ ns : List Int, ds = [.lst (ns.map Dt.int)] ∧ k (.int ns.sum)
theorem rcl_sum : Rcl K (rSum K) fSum := fun so O H xs ds hO r PD ⟨bs, e, p⟩ Q q => by
  subst e
  obtain ⟨x, rfl, r1⟩ := one_rv r
  obtain ⟨a, xs, rfl, _, h, rs, _⟩ := lst_rv r1
  exact ⟨a, bs, rfl, by rw [← int_rvs rs]; exact .inl (.inl h), q _ _ H p (Ex.refl H) (.int _)⟩
def fMax : List Dt → (Dt → Prop) → Prop := fun ds k => ∃ ns : List Int, ds = [.lst (ns.map Dt.int)] ∧ 0 < ns.length ∧ ∀ m, m ∈ ns → (∀ y, y ∈ ns → y ≤ m) → k (.int m)
theorem rcl_max : Rcl K (rMax K) fMax := fun so O H xs ds hO r PD ⟨bs, e, h0, p⟩ Q q => by
  subst e
  obtain ⟨x, rfl, r1⟩ := one_rv r
  obtain ⟨a, xs, rfl, _, h, rs, _⟩ := lst_rv r1
  exact ⟨a, bs, rfl, by rw [← int_rvs rs]; exact .inl (.inl h), h0, fun m h1 h2 => q _ _ H (p m h1 h2) (Ex.refl H) (.int _)⟩
def fMin : List Dt → (Dt → Prop) → Prop := fun ds k => ∃ ns : List Int, ds = [.lst (ns.map Dt.int)] ∧ 0 < ns.length ∧ ∀ m, m ∈ ns → (∀ y, y ∈ ns → m ≤ y) → k (.int m)
theorem rcl_min : Rcl K (rMin K) fMin := fun so O H xs ds hO r PD ⟨bs, e, h0, p⟩ Q q => by
  subst e
  obtain ⟨x, rfl, r1⟩ := one_rv r
  obtain ⟨a, xs, rfl, _, h, rs, _⟩ := lst_rv r1
  exact ⟨a, bs, rfl, by rw [← int_rvs rs]; exact .inl (.inl h), h0, fun m h1 h2 => q _ _ H (p m h1 h2) (Ex.refl H) (.int _)⟩
def fInt : List Dt → (Dt → Prop) → Prop
  | [.int i], k => k (.int i)
  | [.bl b], k => k (.int (if b then 1 else 0))
  | _, _ => False
theorem rcl_int : Rcl K rIntU fInt := fun so O H xs ds hO r PD f Q q => by
  unfold fInt at f
  split at f
  · obtain ⟨x, rfl, r1⟩ := one_rv r
    cases int_rv r1
    exact .inl ⟨_, rfl, q _ _ H f (Ex.refl H) (.int _)⟩
  · obtain ⟨x, rfl, r1⟩ := one_rv r
    cases r1
    exact .inr ⟨_, rfl, q _ _ H f (Ex.refl H) (.int _)⟩
  · exact f.elim
/-! ### isinstance -/
def tyD : Dt → Option String
  | .non => some "NoneType" | .bl _ => some "bool" | .int _ => some "int" | .str _ => some "str" | .lst _ => some "list" | .tup _ => some "tuple" | .dct _ => some "dict" | _ => none
theorem ty_rv {t : String} (r : Rv so O H x d) (h : tyD d = some t) : TyX K H x (.type t) := by
  cases r with
  | non => cases h; exact .base .non
  | bl b => cases h; exact .base (.bl b)
  | int i => cases h; exact .base (.int i)
  | str hz => cases h; exact .base (.str _)
  | lst ho h1 => cases h; exact .base (.lst h1)
  | tup ho h1 => cases h; exact .base (.tup h1)
  | dct ho h1 =>
    cases h
    rcases h1 with h1 | ⟨o, h1⟩
    · exact .base (.dK h1)
    · exact .fDict h1
  | ins => cases h
  | st => cases h
  | dtn => cases h
  | dto => cases h
  | ob => cases h
  | ad => cases h
  | opq => cases h
def isL : Dt → Bool | .lst _ => true | .tup _ => true | _ => false
def isI : Dt → Bool | .int _ => true | .bl _ => true | _ => false
def isBo : Dt → Bool | .bl _ => true | _ => false
def isS : Dt → Bool | .str _ => true | _ => false
def isLs : Dt → Bool | .lst _ => true | _ => false
def isTu : Dt → Bool | .tup _ => true | _ => false
def isDc : Dt → Bool | .dct _ => true | _ => false
theorem et_isD {n : String} (f : Dt → Bool) (hf : ∀ d t, tyD d = some t → kitB t n = some (f d)) (h : Et g env te fun d e => (tyD d).isSome = true ∧ P (.bl (f d)) e) : Et g env (tCB (rIsU g.K) (tCons te (tCons (tC (.ty n)) tNil))) P := fun c L σ H S Q q =>
  h c L σ H S _ fun x d e H1 ⟨ht, p⟩ S1 l k r => by
    obtain ⟨t, ht⟩ := Option.isSome_iff_exists.mp ht
    exact .inl ⟨x, .ty n, .type t, .type n, f d, rfl, .ty n, .base (ty_rv r ht), kit_ty (hf d t ht), q _ _ e H1 p S1 l k (.bl _)⟩
theorem isk {n : String} {f : Dt → Bool} (h1 : kitB "NoneType" n = some (f .non)) (h2 : ∀ b, kitB "bool" n = some (f (.bl b))) (h3 : ∀ i, kitB "int" n = some (f (.int i))) (h4 : ∀ z, kitB "str" n = some (f (.str z)))
    (h5 : ∀ ds, kitB "list" n = some (f (.lst ds))) (h6 : ∀ ds, kitB "tuple" n = some (f (.tup ds))) (h7 : ∀ ds, kitB "dict" n = some (f (.dct ds))) : ∀ d t, tyD d = some t → kitB t n = some (f d) := fun d t h => by
  cases d with
  | non => cases h; exact h1
  | bl b => cases h; exact h2 b
  | int b => cases h; exact h3 b
  | str b => cases h; exact h4 b
  | lst b => cases h; exact h5 b
  | tup b => cases h; exact h6 b
  | dct b => cases h; exact h7 b
  | ins => cases h
  | st => cases h
  | dtn hs ds => cases h
  | dto b hs ds => cases h
  | ob r t => cases h
  | ad => cases h
  | opq => cases h
theorem et_isInt (h : Et g env te fun d e => (tyD d).isSome = true ∧ P (.bl (isI d)) e) : Et g env (tCB (rIsU g.K) (tCons te (tCons (tC (.ty "int")) tNil))) P :=
  et_isD isI (isk (by decide +kernel) (fun _ => (by decide +kernel : kitB "bool" "int" = some true)) (fun _ => (by decide +kernel : kitB "int" "int" = some true)) (fun _ => (by decide +kernel : kitB "str" "int" = some false)) (fun _ => (by decide +kernel : kitB "list" "int" = some false)) (fun _ => (by decide +kernel : kitB "tuple" "int" = some false)) fun _ => (by decide +kernel : kitB "dict" "int" = some false)) h
theorem et_isBool (h : Et g env te fun d e => (tyD d).isSome = true ∧ P (.bl (isBo d)) e) : Et g env (tCB (rIsU g.K) (tCons te (tCons (tC (.ty "bool")) tNil))) P :=
  et_isD isBo (isk (by decide +kernel) (fun _ => (by decide +kernel : kitB "bool" "bool" = some true)) (fun _ => (by decide +kernel : kitB "int" "bool" = some false)) (fun _ => (by decide +kernel : kitB "str" "bool" = some false)) (fun _ => (by decide +kernel : kitB "list" "bool" = some false)) (fun _ => (by decide +kernel : kitB "tuple" "bool" = some false)) fun _ => (by decide +kernel : kitB "dict" "bool" = some false)) h
theorem et_isStr (h : Et g env te fun d e => (tyD d).isSome = true ∧ P (.bl (isS d)) e) : Et g env (tCB (rIsU g.K) (tCons te (tCons (tC (.ty "str")) tNil))) P :=
  et_isD isS (isk (by decide +kernel) (fun _ => (by decide +kernel : kitB "bool" "str" = some false)) (fun _ => (by decide +kernel : kitB "int" "str" = some false)) (fun _ => (by decide +kernel : kitB "str" "str" = some true)) (fun _ => (by decide +kernel : kitB "list" "str" = some false)) (fun _ => (by decide +kernel : kitB "tuple" "str" = some false)) fun _ => (by decide +kernel : kitB "dict" "str" = some false)) h
theorem et_isList (h : Et g env te fun d e => (tyD d).isSome = true ∧ P (.bl (isLs d)) e) : Et g env (tCB (rIsU g.K) (tCons te (tCons (tC (.ty "list")) tNil))) P :=
  et_isD isLs (isk (by decide +kernel) (fun _ => (by decide +kernel : kitB "bool" "list" = some false)) (fun _ => (by decide +kernel : kitB "int" "list" = some false)) (fun _ => (by decide +kernel : kitB "str" "list" = some false)) (fun _ => (by decide +kernel : kitB "list" "list" = some true)) (fun _ => (by decide +kernel : kitB "tuple" "list" = some false)) fun _ => (by decide +kernel : kitB "dict" "list" = some false)) h
theorem et_isTuple (h : Et g env te fun d e => (tyD d).isSome = true ∧ P (.bl (isTu d)) e) : Et g env (tCB (rIsU g.K) (tCons te (tCons (tC (.ty "tuple")) tNil))) P :=
  et_isD isTu (isk (by decide +kernel) (fun _ => (by decide +kernel : kitB "bool" "tuple" = some false)) (fun _ => (by decide +kernel : kitB "int" "tuple" = some false)) (fun _ => (by decide +kernel : kitB "str" "tuple" = some false)) (fun _ => (by decide +kernel : kitB "list" "tuple" = some false)) (fun _ => (by decide +kernel : kitB "tuple" "tuple" = some true)) fun _ => (by decide +kernel : kitB "dict" "tuple" = some false)) h
theorem et_isDict (h : Et g env te fun d e => (tyD d).isSome = true ∧ P (.bl (isDc d)) e) : Et g env (tCB (rIsU g.K) (tCons te (tCons (tC (.ty "dict")) tNil))) P :=
  et_isD isDc (isk (by decide +kernel) (fun _ => (by decide +kernel : kitB "bool" "dict" = some false)) (fun _ => (by decide +kernel : kitB "int" "dict" = some false)) (fun _ => (by decide +kernel : kitB "str" "dict" = some false)) (fun _ => (by decide +kernel : kitB "list" "dict" = some false)) (fun _ => (by decide +kernel : kitB "tuple" "dict" = some false)) fun _ => (by decide +kernel : kitB "dict" "dict" = some true)) h
def tC2 (ns : List String) : TA := ns.foldr (fun n r => tCons (tC (.ty n)) r) tNil
/-- isinstance(x, (a, b, ..)) of built-in types -/
theorem et_isT (ns : List String) (f : Dt → Bool) (hl : ns.length ≤ 100) (hf : ∀ d t, tyD d = some t → kitBs t ns = some (f d)) (h : Et g env te fun d e => (tyD d).isSome = true ∧ P (.bl (f d)) e) : Et g env (tCB (rIsU g.K) (tCons te (tCons (tTup (tC2 ns)) tNil))) P := fun c L σ H S Q q =>
  h c L σ H S _ fun x d e H1 ⟨ht, p⟩ S1 l k r => by
    obtain ⟨t, ht⟩ := Option.isSome_iff_exists.mp ht
    have run : ∀ (ns : List String) (Q : List V → Hp → Prop), Q (ns.map V.ty) H1 → tC2 ns σ H1 Q := fun ns => by
      induction ns with
      | nil => exact fun Q q => q
      | cons n r ih => exact fun Q q => ih _ q
    refine run ns _ ⟨sz_of (by rw [List.length_map]; omega), fun tp hp => ?_⟩
    exact .inr ⟨x, tp, _, .type t, _, f d, rfl, upd_same, clsv_tys ns, .base (ty_rv (r.ex (Ex.new hp)) ht), kitBs_ok (hf d t ht), q _ _ e _ p (S1.ex (Ex.new hp)) l (k.trans (Ko.new hp)) (.bl _)⟩
theorem iskT {ns : List String} {f : Dt → Bool} (h1 : kitBs "NoneType" ns = some (f .non)) (h2 : ∀ b, kitBs "bool" ns = some (f (.bl b))) (h3 : ∀ i, kitBs "int" ns = some (f (.int i))) (h4 : ∀ z, kitBs "str" ns = some (f (.str z)))
    (h5 : ∀ ds, kitBs "list" ns = some (f (.lst ds))) (h6 : ∀ ds, kitBs "tuple" ns = some (f (.tup ds))) (h7 : ∀ ds, kitBs "dict" ns = some (f (.dct ds))) : ∀ d t, tyD d = some t → kitBs t ns = some (f d) := fun d t h => by
  cases d with
  | non => cases h; exact h1
  | bl b => cases h; exact h2 b
  | int b => cases h; exact h3 b
  | str b => cases h; exact h4 b
  | lst b => cases h; exact h5 b
  | tup b => cases h; exact h6 b
  | dct b => cases h; exact h7 b
  | ins => cases h
  | st => cases h
  | dtn hs ds => cases h
  | dto b hs ds => cases h
  | ob r t => cases h
  | ad => cases h
  | opq => cases h
theorem et_isLT (h : Et g env te fun d e => (tyD d).isSome = true ∧ P (.bl (isL d)) e) : Et g env (tCB (rIsU g.K) (tCons te (tCons (tTup (tCons (tC (.ty "list")) (tCons (tC (.ty "tuple")) tNil))) tNil))) P :=
  et_isT ["list", "tuple"] isL (by decide) (iskT (by decide +kernel) (fun _ => (by decide +kernel : kitBs "bool" ["list", "tuple"] = some false)) (fun _ => (by decide +kernel : kitBs "int" ["list", "tuple"] = some false)) (fun _ => (by decide +kernel : kitBs "str" ["list", "tuple"] = some false)) (fun _ => (by decide +kernel : kitBs "list" ["list", "tuple"] = some true)) (fun _ => (by decide +kernel : kitBs "tuple" ["list", "tuple"] = some true)) fun _ => (by decide +kernel : kitBs "dict" ["list", "tuple"] = some false)) h
/-! ### what is walked, by any kind -/
def kDt : Key → Dt
  | .inl i => .int i
  | .inr z => .str z
def itD : Dt → (List Dt → Prop) → Prop
  | .lst ds, k => k ds
  | .tup ds, k => k ds
  | .str z, k => k (strD z)
  | .dct kvs, k => (∀ kv ∈ kvs, ∀ z, kv.1 = .inr z → z.length ≤ Zz) ∧ k (kvs.map fun kv => kDt kv.1)
  | _, _ => False
theorem wk_str {z : Str} (hz : z.length ≤ Zz) : Wk so A (Its z) (strD z) H1 := by
  have hl : (strD z).length = z.cps.size := by simp [strD]
  refine ⟨by rw [hl]; exact hz, fun i H' hi k => by rw [hl] at hi; exact hi, fun H' k => by rw [hl]; exact Nat.le_refl _, fun O' i H' x H'' hi k h1 h2 ⟨e, k', hk, y⟩ => ?_⟩
  subst e y
  refine ⟨Ex.refl _, .str ⟨#[k']⟩, ?_, .str (by show 1 ≤ Zz; decide)⟩
  unfold strD
  rw [List.getElem?_map, Array.getElem?_toList, hk]
  rfl
theorem wk_keys {a : Addr} {od : Obj} {xs : List (Key × V)} {kvs : List (Key × Dt)} (ho : ¬ A a) (h : H1 a = some (.frz od (.dK xs))) (hk : xs.map (·.1) = kvs.map (·.1)) (hz : kvs.length ≤ Zz) (hs : ∀ kv ∈ kvs, ∀ z, kv.1 = Sum.inr z → z.length ≤ Zz) :
    Wk so A (Itk a od xs) (kvs.map fun kv => kDt kv.1) H1 := by
  have hl : xs.length = kvs.length := by have := congrArg List.length hk; simpa using this
  have at_ : ∀ H', Ko A A H1 H' → H' a = some (.frz od (.dK xs)) := fun H' k => k.keep1 ho h fun _ z => nomatch z
  refine ⟨by rw [List.length_map]; exact hz, fun i H' hi k => ⟨at_ H' k, by rw [List.length_map] at hi; omega⟩, fun H' k => ⟨at_ H' k, by rw [List.length_map]; omega⟩, fun O' i H' x H'' hi k h1 h2 ⟨e, k', v, hkv, y⟩ => ?_⟩
  subst e y
  have e1 : (xs.map (·.1))[i]? = some k' := by rw [List.getElem?_map, hkv]; rfl
  rw [hk, List.getElem?_map] at e1
  cases e2 : kvs[i]? with
  | none => rw [e2] at e1; cases e1
  | some q =>
    rw [e2] at e1
    cases e1
    refine ⟨Ex.refl _, kDt q.1, by rw [List.getElem?_map, e2]; rfl, ?_⟩
    have hq := hs q (List.mem_of_getElem? e2)
    show Rv so O' H'' (kV q.1) (kDt q.1)
    cases e3 : q.1 with
    | inl i => exact .int i
    | inr z => exact .str (hq z e3)
/-- the dict at a is locked -/
theorem Sv.lock {a : Addr} {od : Obj} {xs : List (Key × V)} (S : Sv g.K c H σ env) (hl : c.lk = true) (ha : ¬ Av c σ env a) (h : H a = some (.dK xs)) : Sv g.K c (upd H a (.frz od (.dK xs))) σ env ∧ Ko (Mv c σ env) (An c σ env) H (upd H a (.frz od (.dK xs))) := by
  have k : ∀ {M : Addr → Prop}, Ko M (An c σ env) H (upd H a (.frz od (.dK xs))) := fun {M} => ⟨fun b o n e => by
    by_cases hb : b = a
    · subst hb
      rw [h] at e
      cases e
      exact .inr ⟨fun z => z.elim (fun z => by rw [hl] at z; cases z) ha, xs, od, rfl, upd_same⟩
    · rw [upd_ne hb]; exact .inl e, fun b e => upd_some e⟩
  have nO : ¬ c.O a := fun z => ha (.inl z)
  refine ⟨⟨⟨S.base.trans (k.mono (fun _ z => z) fun b z => z.elim (fun z => by rw [S.lkb hl] at z; cases z) fun z => .inr (.inl z)), S.lkb, S.sO, fun b z => upd_some (S.dom b z), S.stt.put (fun s hs => ⟨fun z => nO (by rw [z]; exact (S.sO s (.inl hs)).1), fun z => nO (by rw [z]; exact (S.sO s (.inl hs)).2 s hs)⟩) ⟨_, h, (fun _ z => nomatch z), (fun _ z => nomatch z)⟩⟩, S.len, S.uniq, S.reg, S.fzs, fun i d z => ?_, fun i d z => ?_⟩, k⟩
  · obtain ⟨y, z1, z2⟩ := S.tree i d z
    exact ⟨y, z1, z2.keep k⟩
  · obtain ⟨y, z1, z2, z3, z4⟩ := S.own i d z
    exact ⟨y, z1, z2, z3, z4.keepR k fun b hb => upd_ne fun q => ha (by rw [← q]; exact .inr ⟨i, d, z, hb.elim (fun e => .inl (by rw [e]; exact z1)) .inr⟩)⟩
/-- a list, a tuple or a text walked -/
def itS : Dt → (List Dt → Prop) → Prop
  | .lst ds, k => k ds
  | .tup ds, k => k ds
  | .str z, k => k (strD z)
  | _, _ => False
theorem ei_seq (h : Et g env te fun d e => itS d fun ds => PL ds e) : Ei g env (iAny g.K te) PL := fun c L σ H S R q =>
  h c L σ H S _ fun x d e H1 p S1 l k r => by
    have p : itS d (fun ds => PL ds e) := p
    cases d with
    | lst ds =>
      obtain ⟨a, xs, rfl, ho, h0, rs, hz⟩ := lst_rv r
      exact .inl ⟨a, rfl, ⟨xs, .inl (.inl h0)⟩, q _ _ e H1 p S1 l k (wk_list r)⟩
    | tup ds =>
      obtain ⟨a, xs, rfl, ho, h0, rs, hz⟩ := tup_rv r
      exact .inr (.inl ⟨a, rfl, ⟨xs, .inl (.inl h0)⟩, q _ _ e H1 p S1 l k (wk_tup r)⟩)
    | str z =>
      obtain ⟨rfl, hz⟩ := str_rv r
      exact .inr (.inr (.inl ⟨_, rfl, q _ _ e H1 p S1 l k (wk_str hz)⟩))
    | _ => exact p.elim
theorem ei_any (hgl : g.lk = true) (h : Et g env te fun d e => itD d fun ds => PL ds e) : Ei g env (iAny g.K te) PL := fun c L σ H S R q =>
  have hl : c.lk = true := L.1.symm.trans hgl
  h c L σ H S _ fun x d e H1 p S1 l k r => by
    have p : itD d (fun ds => PL ds e) := p
    cases d with
    | lst ds =>
      obtain ⟨a, xs, rfl, ho, h0, rs, hz⟩ := lst_rv r
      exact .inl ⟨a, rfl, ⟨xs, .inl (.inl h0)⟩, q _ _ e H1 p S1 l k (wk_list r)⟩
    | tup ds =>
      obtain ⟨a, xs, rfl, ho, h0, rs, hz⟩ := tup_rv r
      exact .inr (.inl ⟨a, rfl, ⟨xs, .inl (.inl h0)⟩, q _ _ e H1 p S1 l k (wk_tup r)⟩)
    | str z =>
      obtain ⟨rfl, hz⟩ := str_rv r
      exact .inr (.inr (.inl ⟨_, rfl, q _ _ e H1 p S1 l k (wk_str hz)⟩))
    | dct kvs =>
      obtain ⟨hs, p⟩ := p
      obtain ⟨a, xs, rfl, ho, h0, tb, hz⟩ := dct_rv r
      rcases h0 with h0 | ⟨od, h0⟩
      · exact .inr (.inr (.inr (.inr ⟨a, xs, rfl, h0, fun od => q _ _ e _ p (S1.lock hl ho h0).1 l (k.trans ((S1.lock hl ho h0).2.le l)) (wk_keys ho upd_same tb.1 hz hs)⟩)))
      · exact .inr (.inr (.inr (.inl ⟨a, od, xs, rfl, h0, q _ _ e H1 p S1 l k (wk_keys ho h0 tb.1 hz hs)⟩)))
    | _ => exact p.elim
end
end Wv
/-! Fresh lists by calls and slices, two targets at once, augmented assignments, tuples taken apart. -/
namespace Wv
open PySem PySem.Spec PyProof.Rows L2 Evl
section
variable {g : Gx} {c : Cc} {H H1 H2 H' : Hp} {σ : L2.St} {env e1 : List Sl} {ta tb te td ty tv tx te1 te2 : TE} {tt : TT} {t u tu tw : TS} {P : Dt → List Sl → Prop} {PL : List Dt → List Sl → Prop} {x y : V} {d : Dt} {E : De} {so : Option Addr} {O A O' : Addr → Prop} {K : PySem.W.Frag}
/-- what stands at a: a container and its items -/
def Cn (so : Option Addr) (O : Addr → Prop) (H : Hp) (a : Addr) : Dt → Prop
  | .lst ds => ∃ xs, H a = some (.lst xs) ∧ Rvs so O H xs ds ∧ ds.length ≤ Zz
  | .tup ds => ∃ xs, H a = some (.tup xs) ∧ Rvs so O H xs ds ∧ ds.length ≤ Zz
  | .dct ds => ∃ xs, Rd H a (.dK xs) ∧ Tb so O H xs ds ∧ ds.length ≤ Zz
  | .dtn _ _ => True
  | .dto _ _ _ => True
  | .ob _ _ => True
  | _ => False
def isC : Dt → Bool | .lst _ => true | .tup _ => true | .dct _ => true | _ => false
theorem rv_cn (r : Rv so O H x d) (h : isC d = true) : ∃ a, x = .ref a ∧ Cn so O H a d := by
  cases d with
  | lst ds => obtain ⟨a, xs, e, _, h0, rs, hz⟩ := lst_rv r; exact ⟨a, e, xs, h0, rs, hz⟩
  | tup ds => obtain ⟨a, xs, e, _, h0, rs, hz⟩ := tup_rv r; exact ⟨a, e, xs, h0, rs, hz⟩
  | dct ds => obtain ⟨a, xs, e, _, h0, rs, hz⟩ := dct_rv r; exact ⟨a, e, xs, h0, rs, hz⟩
  | _ => cases h
theorem ol_cn {a : Addr} (h : Oo so O H a d) : Cn so O H a d := by
  cases d with
  | lst ds => obtain ⟨xs, h1, h2, h3, h4⟩ := h; exact ⟨xs, h1, ⟨h2, h4⟩, h3⟩
  | tup ds => obtain ⟨xs, h1, h2, h3, h4⟩ := h; exact ⟨xs, h1, ⟨h2, h4⟩, h3⟩
  | dct ds => obtain ⟨xs, h1, h2, h3, h4⟩ := h; exact ⟨xs, .inl h1, ⟨h2, h4⟩, h3⟩
  | dtn _ _ => exact trivial
  | dto _ _ _ => exact trivial
  | ob _ _ => exact trivial
  | _ => exact h.elim
/-- a call that makes a new list of a container -/
def Rcf (K : PySem.W.Frag) (r : List V → Hp → VK → Prop) (f : Dt → (Dt → Prop) → Prop) : Prop := (∀ d PD, f d PD → isC d = true) ∧ ∀ so O H a d, Cn so O H a d → ∀ PD, f d PD → ∀ Q : VK,
  (∀ p ys es, PD (.lst es) → H p = none → Rvs so O H ys es → es.length ≤ Zz → Q (.ref p) (upd H p (.lst ys))) → r [.ref a] H Q
theorem ol_new {p : Addr} {ys : List V} {es : List Dt} (rs : Rvs so O H ys es) (hz : es.length ≤ Zz) (hp : H p = none) (h : ∀ a, O' a → O a ∨ a = p) : Ol so O' (upd H p (.lst ys)) p (.lst es) :=
  ⟨ys, upd_same, rs.1, hz, fun i x d h1 h2 => ((rs.2 i x d h1 h2).avoid fun b z => (h b z).imp id fun z => by rw [z]; exact hp).ex (Ex.new hp)⟩
theorem ef_cb {r : List V → Hp → VK → Prop} {f : Dt → (Dt → Prop) → Prop} (hr : Rcf g.K r f) (h : Et g env te fun d e1 => f d fun t => P t e1) : Ef g env (tCB r (tCons te tNil)) P := fun c L σ H S Q q =>
  h c L σ H S _ fun x d e1 H1 p S1 l1 k1 r1 => by
    obtain ⟨a, rfl, cn⟩ := rv_cn r1 (hr.1 _ _ p)
    exact hr.2 _ _ H1 a d cn _ p Q fun p' ys es hp hn rs hz => q p' (.lst es) e1 _ hp (S1.add hn) l1 (k1.trans (Ko.new hn)) (k1.back hn) (ol_new rs hz hn fun b z => Av.add.mp z)
theorem ef_cbO {r : List V → Hp → VK → Prop} {f : Dt → (Dt → Prop) → Prop} {i : Nat} (hr : Rcf g.K r f) (h0 : env[i]? = some (Sl.own d)) (h : f d fun t => P t env) : Ef g env (tCB r (tCons (tVar i) tNil)) P := fun c L σ H S Q q => by
  obtain ⟨a, h1, _, _, o⟩ := S.own i d h0
  exact ⟨.ref a, h1, hr.2 _ _ H a d (ol_cn o) _ h Q fun p' ys es hp hn rs hz => q p' (.lst es) env _ hp (S.add hn) Le.refl (Ko.new hn) hn (ol_new rs hz hn fun b z => Av.add.mp z)⟩
def fList : Dt → (Dt → Prop) → Prop
  | .lst ds, k => k (.lst ds)
  | .tup ds, k => k (.lst ds)
  | .dct kvs, k => (∀ kv ∈ kvs, ∀ z, kv.1 = .inr z → z.length ≤ Zz) ∧ k (.lst (kvs.map fun kv => kDt kv.1))
  | _, _ => False
theorem keys_rvs {xs : List (Key × V)} {kvs : List (Key × Dt)} (hk : xs.map (·.1) = kvs.map (·.1)) (hs : ∀ kv ∈ kvs, ∀ z, kv.1 = Sum.inr z → z.length ≤ Zz) : Rvs so O H (xs.map fun kv => kV kv.1) (kvs.map fun kv => kDt kv.1) := by
  have e : (xs.map fun kv => kV kv.1) = (kvs.map fun kv => kV kv.1) := by
    have e1 : ∀ {α : Type} (l : List (Key × α)), (l.map fun kv => kV kv.1) = (l.map (·.1)).map kV := fun l => by rw [List.map_map]; rfl
    rw [e1, e1, hk]
  rw [e]
  refine ⟨by simp, fun i x d h1 h2 => ?_⟩
  rw [List.getElem?_map] at h1 h2
  cases e2 : kvs[i]? with
  | none => rw [e2] at h1; cases h1
  | some q =>
    rw [e2] at h1 h2
    cases h1
    cases h2
    have hq := hs q (List.mem_of_getElem? e2)
    show Rv so O H (kV q.1) (kDt q.1)
    cases e3 : q.1 with
    | inl i => exact .int i
    | inr z => exact .str (hq z e3)
theorem rcf_list : Rcf K (rListA K) fList := ⟨fun d PD f => by cases d <;> first | rfl | exact f.elim, fun so O H a d cn PD f Q q => by
  cases d with
  | lst ds => obtain ⟨xs, h0, rs, hz⟩ := cn; exact .inl ⟨a, xs, rfl, .inl (.inl (.inl h0)), fun l hl => q l xs ds f hl rs hz⟩
  | tup ds => obtain ⟨xs, h0, rs, hz⟩ := cn; exact .inl ⟨a, xs, rfl, .inr (.inl (.inl h0)), fun l hl => q l xs ds f hl rs hz⟩
  | dct kvs => obtain ⟨xs, h0, tb, hz⟩ := cn; exact .inr ⟨a, xs, rfl, h0, fun l hl => q l _ _ f.2 hl (keys_rvs tb.1 f.1) (by rw [List.length_map]; exact hz)⟩
  | _ => exact f.elim⟩
def fSort : Dt → (Dt → Prop) → Prop
  | .lst ds, k => ∃ zs : List Str, ds = zs.map Dt.str ∧ zs.length < 64 ∧ ∀ ys : List Str, ys.Perm zs → sortedS ys = true → k (.lst (ys.map Dt.str))
  | .dct kvs, k => ∃ zs : List Str, kvs.map (·.1) = zs.map Sum.inr ∧ (∀ z ∈ zs, z.length ≤ Zz) ∧ zs.length < 64 ∧ ∀ ys : List Str, ys.Perm zs → sortedS ys = true → k (.lst (ys.map Dt.str))
  | _, _ => False
theorem rcf_sort : Rcf K (rSortA K) fSort := ⟨fun d PD f => by cases d <;> first | rfl | exact f.elim, fun so O H a d cn PD f Q q => by
  cases d with
  | lst ds =>
    obtain ⟨xs, h0, rs, hz⟩ := cn
    obtain ⟨zs, e, h64, k⟩ := f
    subst e
    obtain ⟨e, hs⟩ := str_rvs rs
    subst e
    exact .inl ⟨a, zs, rfl, .inl (.inl h0), h64, fun ys p hp h1 hn => q p _ _ (k ys hp h1) hn (rvs_str fun z hm => hs z (hp.mem_iff.mp hm)) (by rw [List.length_map, hp.length_eq]; simp only [Zz]; omega)⟩
  | dct kvs =>
    obtain ⟨xs, h0, tb, hz⟩ := cn
    obtain ⟨zs, e, hs, h64, k⟩ := f
    exact .inr ⟨a, xs, zs, rfl, h0, tb.1.trans e, h64, fun ys p hp h1 hn => q p _ _ (k ys hp h1) hn (rvs_str fun z hm => hs z (hp.mem_iff.mp hm)) (by rw [List.length_map, hp.length_eq]; simp only [Zz]; omega)⟩
  | _ => exact f.elim⟩
/-- tuple(x) -/
def fTup : Dt → (Dt → Prop) → Prop
  | .lst ds, k => k (.tup ds)
  | .tup ds, k => k (.tup ds)
  | _, _ => False
theorem et_tuple (h : Et g env te fun d e1 => fTup d fun t => P t e1) : Et g env (tCB (rTupA g.K) (tCons te tNil)) P := fun c L σ H S Q q =>
  h c L σ H S _ fun x d e1 H1 p S1 l1 k1 r1 => by
    cases d with
    | lst ds =>
      obtain ⟨a, xs, rfl, ho, h0, rs, hz⟩ := lst_rv r1
      exact ⟨a, xs, rfl, .inl ⟨.inl (.inl h0), fun l hl => q _ _ e1 _ p (S1.ex (Ex.new hl)) l1 (k1.trans (Ko.new hl)) (new_tup S1.lk_av hl rs hz)⟩⟩
    | tup ds =>
      obtain ⟨a, xs, rfl, ho, h0, rs, hz⟩ := tup_rv r1
      exact ⟨a, xs, rfl, .inr ⟨.inl (.inl h0), q _ _ e1 _ p S1 l1 k1 r1⟩⟩
    | _ => exact (show False from p).elim
/-! ### slices -/
def Eo (g : Gx) (env : List Sl) (to : TO) (P : Option Int → List Sl → Prop) : Prop := ∀ c, Lk g c → ∀ σ H, Sv g.K c H σ env → ∀ Q : Option Int → Hp → Prop,
  (∀ b env' H1, P b env' → Sv g.K c H1 σ env' → Le env' env → Ko (Mv c σ env) (An c σ env) H H1 → Q b H1) → to σ H Q
theorem eo_none {P : Option Int → List Sl → Prop} (p : P none env) : Eo g env tNoPart P := fun c L σ H S Q q => q none env H p S Le.refl Ko.refl
theorem eo_some {P : Option Int → List Sl → Prop} (h : Et g env te fun d e => ∃ i, d = .int i ∧ P (some i) e) : Eo g env (tPart te) P := fun c L σ H S Q q =>
  h c L σ H S _ fun x d e1 H1 ⟨i, e0, p⟩ S1 l k r => by
    subst e0
    cases int_rv r
    exact ⟨i, rfl, q (some i) e1 H1 p S1 l k⟩
def ctD (ds : List Dt) (lo hi : Option Int) : List Dt := (ds.drop (HT.sIx ds.length 0 lo)).take (HT.sIx ds.length ds.length hi - HT.sIx ds.length 0 lo)
theorem ctD_len (ds : List Dt) (lo hi : Option Int) : (ctD ds lo hi).length ≤ ds.length := by
  unfold ctD
  rw [List.length_take, List.length_drop]
  omega
theorem Rvs.drop {xs : List V} {ds : List Dt} (r : Rvs so O H xs ds) (n : Nat) : Rvs so O H (xs.drop n) (ds.drop n) := ⟨by simp [r.1], fun i x d h1 h2 => by
  rw [List.getElem?_drop] at h1 h2
  exact r.2 _ x d h1 h2⟩
theorem Rvs.take {xs : List V} {ds : List Dt} (r : Rvs so O H xs ds) (n : Nat) : Rvs so O H (xs.take n) (ds.take n) := ⟨by simp [r.1], fun i x d h1 h2 => by
  rw [List.getElem?_take] at h1 h2
  split at h1
  · rename_i hi
    rw [if_pos hi] at h2
    exact r.2 _ x d h1 h2
  · cases h1⟩
theorem Rvs.cut {xs : List V} {ds : List Dt} (r : Rvs so O H xs ds) (lo hi : Option Int) : Rvs so O H (cutV xs lo hi) (ctD ds lo hi) := by
  unfold cutV ctD
  rw [r.1]
  exact (r.drop _).take _
def fSl (lo hi : Option Int) : Dt → (Dt → Prop) → Prop
  | .lst ds, k => k (.lst (ctD ds lo hi))
  | .tup ds, k => k (.tup (ctD ds lo hi))
  | .str z, k => k (.str (cutS z lo hi))
  | _, _ => False
theorem et_sl {tl th : TO} (h : Et g env te fun d e => Eo g e tl fun lo e2 => Eo g e2 th fun hi e3 => fSl lo hi d fun t => P t e3) : Et g env (tSl (rSlU g.K) te tl th) P := fun c L σ H S Q q =>
  h c L σ H S _ fun x d e1 H1 p1 S1 l1 k1 r1 => p1 c L σ H1 S1 _ fun lo e2 H2 p2 S2 l2 k2 => p2 c L σ H2 S2 _ fun hi e3 H3 p S3 l3 k3 => by
    have r3 := (S2.kp ((S1.kp r1 k2).mono (Av.le l2)) k3).mono (Av.le l3)
    have kk := (k1.trans (k2.le l1)).trans (k3.le (l1.trans l2))
    have ll := (l1.trans l2).trans l3
    cases d with
    | lst ds =>
      obtain ⟨a, xs, rfl, ho, h0, rs, hz⟩ := lst_rv r3
      exact .inl ⟨a, xs, rfl, .inl (.inl h0), fun l hl => q _ _ e3 _ p (S3.ex (Ex.new hl)) ll (kk.trans (Ko.new hl)) (new_lst S3.lk_av hl (rs.cut lo hi) (Nat.le_trans (ctD_len _ _ _) hz))⟩
    | tup ds =>
      obtain ⟨a, xs, rfl, ho, h0, rs, hz⟩ := tup_rv r3
      refine .inr (.inl ⟨a, xs, rfl, .inl (.inl h0), fun ⟨z1, z2⟩ => q _ _ e3 _ p S3 ll kk ?_, fun _ l hl => q _ _ e3 _ p (S3.ex (Ex.new hl)) ll (kk.trans (Ko.new hl)) (new_tup S3.lk_av hl (rs.cut lo hi) (Nat.le_trans (ctD_len _ _ _) hz))⟩)
      have e : ctD ds lo hi = ds := by
        unfold ctD
        rw [← rs.1, z1, z2]
        simp [rs.1]
      rw [e]
      exact r3
    | str z =>
      obtain ⟨rfl, hz⟩ := str_rv r3
      exact .inr (.inr ⟨z, rfl, zl hz, q _ _ e3 _ p S3 ll kk (.str (Nat.le_trans (cutS_length _ _ _) hz))⟩)
    | _ => exact (show False from p).elim
/-- two values for two names -/
def Pr (g : Gx) (env : List Sl) (te1 te2 : TE) (i j : Nat) (nx : List Sl → Prop) : Prop := ∀ c, Lk g c → ∀ σ H, Sv g.K c H σ env → ∀ G : List V → Hp → Prop,
  (∀ v w H' env', Sv g.K c H' ((σ.set i (some v)).set j (some w)) env' → Fw c σ env H ((σ.set i (some v)).set j (some w)) env' H' → nx env' → G [v, w] H') → tCons te1 (tCons te2 tNil) σ H G
theorem Pr.par {i j : Nat} (h : Pr g env te1 te2 i j E.nx) : Wd g env (tPar i j (tCons te1 (tCons te2 tNil))) E := fun c L σ H S D n b k r re =>
  h c L σ H S _ fun v w H' e' S' f p => ⟨v, w, rfl, n _ H' e' S' f p⟩
theorem Pr.tup {i j : Nat} (h : Pr g env te1 te2 i j E.nx) : Wd g env (tAsg (tTup (tCons te1 (tCons te2 tNil))) (gTup g.K 2 (gCons (gName i) (gCons (gName j) gNil)))) E := fun c L σ H S D n b k r re => by
  show tCons te1 (tCons te2 tNil) σ H fun xs H1 => xs.length ≤ sizeLine ∧ ∀ p, H1 p = none → gTup g.K 2 (gCons (gName i) (gCons (gName j) gNil)) (.ref p) σ (upd H1 p (.tup xs)) D.nx
  exact h c L σ H S _ fun v w H' e' S' f p => ⟨sz_of (Nat.le_of_ble_eq_true rfl), fun q hq => ⟨q, [v, w], rfl, .inl (.inl upd_same), rfl, v, [w], rfl, w, [], rfl, rfl, n _ _ e' (S'.ex (Ex.new hq)) (f.trans ⟨Ko.ex (Ex.new hq), fun _ z => .inl z⟩) p⟩⟩
theorem pr_VV {i j : Nat} (h : Et g env te1 fun d1 e => Et g e te2 fun d2 e2 => E.nx ((e2.set i (.v d1)).set j (.v d2))) : Pr g env te1 te2 i j E.nx := fun c L σ H S G n =>
  h c L σ H S _ fun x d e1 H1 p1 S1 l1 k1 r1 => p1 c L σ H1 S1 _ fun y d2 e2 H2 p2 S2 l2 k2 r2 => by
    have r1' := (S1.kp r1 k2).mono (Av.le l2)
    refine n (x) (y) H2 _ ((S2.set_v (i := i) r1').set_v (i := j) (r2.mono av_set_v)) (((fw_e l1 k1).trans (fw_e l2 k2)).trans ⟨Ko.refl, fun a z => .inl (ow_set_v (ow_set_v z))⟩) p2
theorem fresh_so (S : Sv g.K c H σ env) {p : Addr} (hp : H p = none) : ∀ s, Chg c.so c.cc s → p ≠ s := fun s z q => S.dom s (S.sO s z).1 (by rw [← q]; exact hp)
theorem pr_VO {i j : Nat} (h : Et g env te1 fun d1 e => Ef g e te2 fun d2 e2 => E.nx ((e2.set i (.v d1)).set j (.own d2))) : Pr g env te1 te2 i j E.nx := fun c L σ H S G n =>
  h c L σ H S _ fun x d e1 H1 p1 S1 l1 k1 r1 => p1 c L σ H1 S1 _ fun p d2 e2 H2 p2 S2 l2 k2 hp o2 => by
    have r1' : Rv c.so (Av (c.add p) σ e2) H2 x d := r1.later (k2.mono (Mv.av S1.sO) fun _ z => z) fun a z => (Av.add.mp z).imp (Av.le l2 a) fun z => by rw [z]; exact hp
    refine n (x) (.ref p) H2 _ ((S2.set_v (i := i) r1').set_o (i := j) S.sO (fun z => S1.dom p z hp) (base_none S1 hp) (o2.mono av_set_v)) ⟨(k1.trans (k2.le l1)), fun a z => ?_⟩ p2
    rcases ow_set_o o2.rgn z with z | z
    · exact (fw_e (l1.trans l2) k1).2 a (ow_set_v z)
    · exact .inr (by rw [z]; exact k1.back hp)
theorem add_comm (p p' : Addr) : (c.add p).add p' = (c.add p').add p := by
  unfold Cc.add
  have : (fun a => (c.O a ∨ a = p) ∨ a = p') = fun a => (c.O a ∨ a = p') ∨ a = p := funext fun a => propext ⟨fun h => h.elim (fun h => h.elim (fun h => .inl (.inl h)) .inr) fun h => .inl (.inr h), fun h => h.elim (fun h => h.elim (fun h => .inl (.inl h)) .inr) fun h => .inl (.inr h)⟩
  simp only [this]
theorem pr_OO {i j : Nat} (h : Ef g env te1 fun d1 e => Ef g e te2 fun d2 e2 => E.nx ((e2.set i (.own d1)).set j (.own d2))) : Pr g env te1 te2 i j E.nx := fun c L σ H S G n =>
  h c L σ H S _ fun p d e1 H1 p1 S1 l1 k1 hp o1 => p1 (c.add p) (L.add S.sO) σ H1 S1 _ fun p' d2 e2 H2 p2 S2 l2 k2 hp' o2 => by
    have nm : ¬ Mv (c.add p) σ e1 p := fun z => by
      rcases z with z | ⟨i, d', z1, z2⟩
      · exact fresh_so S hp p z rfl
      · exact (S1.oa z1 z2).2.1 (.inr rfl)
    have o1' : Ol c.so (Av ((c.add p).add p') σ e2) H2 p d := ((o1.avoid (O' := fun a => Av (c.add p) σ e1 a ∨ Av ((c.add p).add p') σ e2 a) fun a z => z.elim .inl fun z => (Av.add.mp z).imp (Av.le l2 a) fun z => by rw [z]; exact hp').keep (k2.mono (fun a z => .inl (Mv.av S1.sO a z)) fun _ z => z) (k2.same nm (.inr (.inl (.inr rfl))) o1.some)).mono fun a z => .inr z
    have pn : p' ≠ p := fun z => by rw [z] at hp'; exact o1.some hp'
    have hp2 : H p' = none := k1.back hp'
    rw [add_comm] at S2 o2 o1'
    have T1 := S2.set_o (i := i) (fun s z => ⟨.inl (S.sO s z).1, fun s' z' => .inl ((S.sO s z).2 s' z')⟩) (fun z => Or.elim (show c.O p ∨ p = p' from z) (fun z => S.dom p z hp) fun z => pn z.symm) (show (c.add p').B p = none from base_none S hp) o1'
    refine n (.ref p) (.ref p') H2 _ (T1.set_o (i := j) S.sO (fun z => S.dom p' z hp2) (base_none S hp2) (o2.mono (av_set_o o1.rgn))) ⟨k1.trans ((k2.mono (O' := Mv c σ e1) (A' := An c σ e1) (fun a z => z) fun a z => z.imp id fun z => Av.add.mpr (.inl z)).le l1), fun a z => ?_⟩ p2
    rcases ow_set_o o2.rgn z with z | z
    · rcases ow_set_o o1.rgn z with z | z
      · exact (fw_e (l1.trans l2) k1).2 a z
      · exact .inr (by rw [z]; exact hp)
    · exact .inr (by rw [z]; exact hp2)
theorem wd_parVO {i j : Nat} (h : Et g env te1 fun d1 e => Ef g e te2 fun d2 e2 => E.nx ((e2.set i (.v d1)).set j (.own d2))) : Wd g env (tPar i j (tCons te1 (tCons te2 tNil))) E := (pr_VO h).par
theorem wd_parOO {i j : Nat} (h : Ef g env te1 fun d1 e => Ef g e te2 fun d2 e2 => E.nx ((e2.set i (.own d1)).set j (.own d2))) : Wd g env (tPar i j (tCons te1 (tCons te2 tNil))) E := (pr_OO h).par
theorem wd_tupOO {i j : Nat} (h : Ef g env te1 fun d1 e => Ef g e te2 fun d2 e2 => E.nx ((e2.set i (.own d1)).set j (.own d2))) : Wd g env (tAsg (tTup (tCons te1 (tCons te2 tNil))) (gTup g.K 2 (gCons (gName i) (gCons (gName j) gNil)))) E := (pr_OO h).tup
theorem wd_par {i j : Nat} (h : Et g env te1 fun d1 e => Et g e te2 fun d2 e2 => E.nx ((e2.set i (.v d1)).set j (.v d2))) : Wd g env (tPar i j (tCons te1 (tCons te2 tNil))) E := (pr_VV h).par
def Tgs (g : Gx) (env : List Sl) (gt : TGs) (ds : List Dt) (P : List Sl → Prop) : Prop := ∀ c σ H xs, Sv g.K c H σ env → Rvs c.so (Av c σ env) H xs ds → ∀ Q : L2.St → Hp → Prop, (∀ σ' env', Sv g.K c H σ' env' → Fw c σ env H σ' env' H → (∀ a, Av c σ' env' a → Av c σ env a) → P env' → Q σ' H) → gt xs σ H Q
def Tgv (g : Gx) (env : List Sl) (gt : TG) (d : Dt) (P : List Sl → Prop) : Prop := ∀ c σ H x, Sv g.K c H σ env → Rv c.so (Av c σ env) H x d → ∀ Q : L2.St → Hp → Prop, (∀ σ' env', Sv g.K c H σ' env' → Fw c σ env H σ' env' H → (∀ a, Av c σ' env' a → Av c σ env a) → P env' → Q σ' H) → gt x σ H Q
theorem Tgv.tg {gt : TG} {Pe : List Sl → Prop} (h : Tgv g env gt d Pe) : Tg g env gt d Pe := fun c σ H x S r Q q => h c σ H x S r Q fun σ' e' S' f _ p => q σ' e' S' f p
theorem tv_name {i : Nat} {Pe : List Sl → Prop} (h : Pe (env.set i (.v d))) : Tgv g env (gName i) d Pe := fun c σ H x S r Q q => q _ _ (S.set_v r) ⟨Ko.refl, fun a z => .inl (ow_set_v z)⟩ av_set_v h
theorem tgs_nil {Pe : List Sl → Prop} (h : Pe env) : Tgs g env gNil [] Pe := fun c σ H xs S r Q q => ⟨List.eq_nil_of_length_eq_zero r.1, q σ env S Fw.refl (fun _ z => z) h⟩
theorem tgs_cons {gt : TG} {gr : TGs} {ds : List Dt} {Pe : List Sl → Prop} (h : Tgv g env gt d fun e => Tgs g e gr ds Pe) : Tgs g env (gCons gt gr) (d :: ds) Pe := fun c σ H xs S r Q q => by
  match xs, r with
  | [], r => exact absurd r.1 (by simp)
  | x :: xs, r =>
    have rt : Rvs c.so (Av c σ env) H xs ds := ⟨by have := r.1; simpa using this, fun i y e e1 e2 => r.2 (i + 1) y e e1 e2⟩
    exact ⟨x, xs, rfl, h c σ H x S (r.2 0 x d rfl rfl) _ fun σ1 e1 S1 f1 a1 p1 => p1 c σ1 H xs S1 (rt.mono a1) Q fun σ2 e2 S2 f2 a2 p2 => q σ2 e2 S2 (f1.trans f2) (fun a z => a1 a (a2 a z)) p2⟩
theorem tv_tup {n : Nat} {gt : TGs} {ds : List Dt} {Pe : List Sl → Prop} (h : Tgs g env gt ds Pe) (hn : ds.length = n := by rfl) : Tgv g env (gTup g.K n gt) (.tup ds) Pe := fun c σ H x S r Q q => by
  obtain ⟨a, xs, rfl, ho, h0, rs, hz⟩ := tup_rv r
  exact ⟨a, xs, rfl, .inl (.inl h0), rs.1.trans hn, h c σ H xs S rs Q q⟩
theorem wd_asgT {gt : TG} (h : Et g env te fun d e => Tgv g e gt d E.nx) : Wd g env (tAsg te gt) E := fun c L σ H S D n b k r re =>
  h c L σ H S _ fun x d e1 H1 p S1 l1 k1 r1 => p c σ H1 x S1 r1 _ fun σ' e' S' f _ q => n σ' H1 e' S' ((fw_e l1 k1).trans f) q
theorem wd_aug {i : Nat} {f : Int → Int → Int} {m : Int} (h0 : env[i]? = some (Sl.v (.int m))) (h : Et g env te fun d e => ∃ n, d = .int n ∧ E.nx (e.set i (.v (.int (f m n))))) : Wd g env (tAug i te (ipI f)) E := fun c L σ H S D n b k r re => by
  obtain ⟨x, h1, rx⟩ := S.tree i _ h0
  cases int_rv rx
  exact ⟨_, h1, h c L σ H S _ fun y d e1 H1 ⟨m2, e0, p⟩ S1 l1 k1 r1 => by
    subst e0
    cases int_rv r1
    exact ⟨m, m2, rfl, rfl, n _ H1 _ (S1.set_v (.int _)) ((fw_e l1 k1).trans ⟨Ko.refl, fun a z => .inl (ow_set_v z)⟩) p⟩⟩
end
end Wv
/-! Promises in short; comprehensions that map; chains; pop. -/
namespace Wv
open PySem PySem.Spec PyProof.Rows L2 Evl
section
variable {g : Gx} {c : Cc} {H H1 H2 H' : Hp} {σ : L2.St} {env e1 : List Sl} {ta tb tc te td ty tv tx te1 te2 : TE} {tt : TT} {t u tu tw : TS} {P : Dt → List Sl → Prop} {PL : List Dt → List Sl → Prop} {x y : V} {d : Dt} {E : De} {so : Option Addr} {O A O' : Addr → Prop} {K : PySem.W.Frag}
theorem isB_eq {d : Dt} {k : Bool → Prop} (h : isB d k) : ∃ b, d = .bl b ∧ k b := isB_dt h
theorem et_chain {r r' : R2} {f f' : Dt → Dt → (Dt → Prop) → Prop} (hr : Rop g.K r f) (hr' : Rop g.K r' f')
    (h : Et g env ta fun d e1 => Et g e1 tb fun e e2 => f d e fun z => isB z fun b => if b = true then Et g e2 tc fun w e3 => f' e w fun t => P t e3 else P (.bl false) e2) : Et g env (tChain r r' ta tb tc) P := fun c L σ H S Q q =>
  h c L σ H S _ fun x d env1 H1 p1 S1 l1 k1 r1 => p1 c L σ H1 S1 _ fun y e env2 H2 p2 S2 l2 k2 r2 =>
    hr c.so (Av c σ env2) H2 x y d e S2.lk_av ((S1.kp r1 k2).mono (Av.le l2)) r2 _ p2 _ fun z t H3 p3 e3 r3 => by
      obtain ⟨b, rfl, p4⟩ := isB_eq p3
      cases r3
      refine ⟨b, rfl, ?_⟩
      have S3 := S2.ex e3
      have k3 := (k1.trans (k2.le l1)).trans (Ko.ex e3)
      cases b with
      | false => exact q _ _ env2 H3 p4 S3 (l1.trans l2) k3 (.bl false)
      | true =>
        refine p4 c L σ H3 S3 _ fun w dw env3 H4 p5 S4 l4 k4 r4 => ?_
        exact hr' c.so (Av c σ env3) H4 y w e dw S4.lk_av ((S3.kp (r2.ex e3) k4).mono (Av.le l4)) r4 _ p5 Q fun z t H5 p6 e5 r5 =>
          q z t env3 H5 p6 (S4.ex e5) ((l1.trans l2).trans l4) ((k3.trans (k4.le (l1.trans l2))).trans (Ko.ex e5)) r5
/-- is None -/
def fIsN (neg : Bool) : Dt → Dt → (Dt → Prop) → Prop
  | .non, .non, k => k (.bl (!neg))
  | .ob _ _, _, _ => False
  | .opq, _, _ => False
  | _, .non, k => k (.bl neg)
  | _, _, _ => False
theorem rop_isN : Rop K (fun x y H Q => y = .non ∧ Q (.bl (decide (x = .non))) H) (fIsN false) := fun so O H x y d e hO r1 r2 PD f Q q => by
  cases e with
  | non =>
    cases r2
    refine ⟨rfl, ?_⟩
    cases r1 <;> first | exact q _ _ H f (Ex.refl H) (.bl _) | exact (show False from f).elim
  | _ => cases d <;> exact f.elim
theorem rop_notN : Rop K (fun x y H Q => y = .non ∧ Q (.bl (!decide (x = .non))) H) (fIsN true) := fun so O H x y d e hO r1 r2 PD f Q q => by
  cases e with
  | non =>
    cases r2
    refine ⟨rfl, ?_⟩
    cases r1 <;> first | exact q _ _ H f (Ex.refl H) (.bl _) | exact (show False from f).elim
  | _ => cases d <;> exact f.elim
/-! ### comprehensions that keep some items and map them -/
theorem eb_yes {P : Bool → List Sl → Prop} (p : P true env) : Eb g env tYes P := fun c L σ H S Q q => q true env H p S Le.refl Ko.refl
def nOwn (env : List Sl) (j : Nat) : Prop := ∀ d0, env[j]? ≠ some (Sl.own d0)
theorem nown_of {j : Nat} {s : Sl} (h : env[j]? = some s) (hs : ∀ d, s ≠ .own d) : nOwn env j := fun d0 z => by
  rw [h] at z
  cases z
  exact hs d0 rfl
/-- [f x for x in .. if p x] -/
theorem ef_map {wi : TI} {j : Nat} (p : Dt → Bool) (f : Dt → Dt) (h : Ei g env wi fun ds e1 => nOwn e1 j ∧ (∀ d ∈ ds, Eb g (e1.set j (.v d)) tt fun b e2 => e2 = e1.set j (.v d) ∧ b = p d) ∧
    (∀ d ∈ ds, p d = true → Et g (e1.set j (.v d)) te fun t e3 => e3 = e1.set j (.v d) ∧ t = f d) ∧ P (.lst ((ds.filter p).map f)) e1) : Ef g env (tLc wi (gName j) tt te [j]) P := ef_lc fun c L σ H S R q =>
  h c L σ H S R fun J ds e1 H1 ⟨h1, h2, h3, h4⟩ => q J ds e1 H1 ⟨h1, fun i acc => acc = ((ds.take i).filter p).map f, rfl, fun i d acc hi hI => by
    have hm := List.mem_of_getElem? hi
    refine fun c L σ H S Q q => h2 d hm c L σ H S Q fun b e2 H1 ⟨z1, z2⟩ => q b e2 H1 ⟨z1, ?_⟩
    have ht : ds.take (i + 1) = ds.take i ++ [d] := by
      rw [List.take_add_one, hi]; rfl
    subst z2
    cases hp : p d with
    | true =>
      refine iteT (fun c L σ H S Q q => h3 d hm hp c L σ H S Q fun x t e3 H1 ⟨w1, w2⟩ => q x t e3 H1 ⟨w1, ?_⟩)
      show _ = ((ds.take (i + 1)).filter p).map f
      rw [hI, w2, ht, List.filter_append, List.map_append]
      simp [hp]
    | false =>
      refine iteF ?_
      show _ = ((ds.take (i + 1)).filter p).map f
      rw [hI, ht, List.filter_append, List.map_append]
      simp [hp], fun acc hI => by rw [hI, List.take_length]; exact h4⟩
/-- [f x for x in ..] -/
theorem ef_mapY {wi : TI} {j : Nat} (f : Dt → Dt) (h : Ei g env wi fun ds e1 => nOwn e1 j ∧ (∀ d ∈ ds, Et g (e1.set j (.v d)) te fun t e3 => e3 = e1.set j (.v d) ∧ t = f d) ∧ P (.lst (ds.map f)) e1) : Ef g env (tLc wi (gName j) tYes te [j]) P :=
  ef_map (fun _ => true) f fun c L σ H S R q => h c L σ H S R fun J ds e1 H1 ⟨h1, h2, h3⟩ => q J ds e1 H1 ⟨h1, fun d _ => eb_yes ⟨rfl, rfl⟩, fun d hd _ => h2 d hd, by rw [List.filter_eq_self.mpr fun _ _ => rfl]; exact h3⟩
/-- all([b x for x in ..]) -/
theorem et_allY {wi : TI} {j : Nat} (f : Dt → Bool) (h : Ei g env wi fun ds e1 => nOwn e1 j ∧ (∀ d ∈ ds, Et g (e1.set j (.v d)) te fun t e3 => e3 = e1.set j (.v d) ∧ t = .bl (f d)) ∧ P (.bl (ds.all f)) e1) : Et g env (tCB (rAll g.K) (tCons (tLc wi (gName j) tYes te [j]) tNil)) P :=
  et_cb rcl_all (ea_cons (Ef.et (ef_mapY (fun d => .bl (f d)) fun c L σ H S R q => h c L σ H S R fun J ds e1 H1 ⟨h1, h2, h3⟩ => q J ds e1 H1 ⟨h1, h2, ea_nil ⟨ds.map f, by rw [List.map_map]; rfl, by rw [List.all_map]; exact h3⟩⟩)))
/-! ### pop -/
theorem Rvs.get {xs : List V} {ds : List Dt} {i : Nat} (r : Rvs so O H xs ds) (h : ds[i]? = some d) : ∃ x, xs[i]? = some x ∧ Rv so O H x d := by
  have hlt : i < xs.length := by rw [r.1]; exact (List.getElem?_eq_some_iff.mp h).1
  exact ⟨xs[i], by simp [hlt], r.2 i _ d (by simp [hlt]) h⟩
theorem Rvs.eraseIdx {xs : List V} {ds : List Dt} (r : Rvs so O H xs ds) (n : Nat) : Rvs so O H (xs.eraseIdx n) (ds.eraseIdx n) := by
  refine ⟨by simp [List.length_eraseIdx, r.1], fun i x d h1 h2 => ?_⟩
  rw [List.getElem?_eraseIdx] at h1 h2
  split at h1
  · rename_i hi
    rw [if_pos hi] at h2
    exact r.2 i x d h1 h2
  · rename_i hi
    rw [if_neg hi] at h2
    exact r.2 (i + 1) x d h1 h2
/-- found.pop(i), an own list -/
theorem et_popAt {i : Nat} {ds0 : List Dt} (h0 : env[i]? = some (Sl.own (.lst ds0))) (h : Et g env te fun n e => ∃ (k : Nat) (ds : List Dt) (d : Dt), n = .int (k : Int) ∧ e[i]? = some (Sl.own (.lst ds)) ∧ ds[k]? = some d ∧ P d (e.set i (.own (.lst (ds.eraseIdx k))))) :
    Et g env (tBM g.K "list" rPopAt (tVar i) (tCons te tNil)) P := fun c L σ H S Q q => by
  obtain ⟨p, h1, _, _, xs, h4, _⟩ := S.own i _ h0
  refine ⟨.ref p, h1, .inl ⟨rfl, xs, sq_of h4⟩, h c L σ H S _ fun x n e1 H1 ⟨k, ds, d, e0, hd, hk, pp⟩ S1 l1 k1 r1 => ?_⟩
  subst e0
  cases int_rv r1
  obtain ⟨p', w1, _, _, ys, w4, w5, w6, w7⟩ := S1.own i _ hd
  rw [h1] at w1
  cases w1
  have rs : Rvs c.so (Av c σ e1) H1 ys ds := ⟨w5, w7⟩
  obtain ⟨y, hy, ry⟩ := rs.get hk
  have hp : Av c σ e1 p := .inr ⟨i, _, hd, .inl h1⟩
  have hlt : k < ys.length := (List.getElem?_eq_some_iff.mp hy).1
  have hz : ys.length ≤ Zz := by rw [w5]; exact w6
  have rs' : Rvs c.so (Av c σ e1) (upd H1 p (.lst (ys.eraseIdx k))) (ys.eraseIdx k) (ds.eraseIdx k) := (rs.eraseIdx k).keep (A := c.O) (Ko.mut hp)
  have S2 := S1.put (e := .lst (ds.eraseIdx k)) hd h1 ⟨ys.eraseIdx k, upd_same, rs'.1, by rw [List.length_eraseIdx]; split <;> omega, rs'.2⟩
  show rPopAt (.ref p) [.int (k : Int)] H1 Q
  refine ⟨p, ys, (k : Int), k, y, rfl, rfl, w4, by omega, by simp only [Zz] at hz; omega, ?_, hy, q y d _ _ pp S2 (fun j e he => ?_) (k1.trans (Ko.le (fw_put (e := .lst (ds.eraseIdx k)) hd h1).1 l1)) ((ry.keep (A := c.O) (Ko.mut hp)).mono fun a z => (av_put hd).mp z)⟩
  · exact (ixN_seq (ixN_nat hlt)).1
  · rcases Sl.get_set he with ⟨ej, q⟩ | ⟨_, z⟩
    · cases q
      rw [ej]
      exact l1 i (.lst ds) hd
    · exact l1 j e z
end
/-! ### an own list or dict looked at -/
section
variable {g : Gx} {c : Cc} {H H1 : Hp} {σ : L2.St} {env : List Sl} {te : TE} {tt : TT} {d : Dt} {i : Nat}
abbrev Gx.nl (g : Gx) : Gx := ⟨g.K, g.E, g.xe, false, g.T⟩
abbrev Cc.nl (c : Cc) : Cc := { c with lk := false }
theorem Lk.nl (L : Lk g c) (k : c.lk = true → c.lb = true) : Lk g.nl c.nl := ⟨rfl, fun C fs hx H' d xs hb h1 h2 h3 => L.2.1 C fs hx H' d xs ⟨hb.base, k, hb.sO, hb.dom, hb.stt⟩ h1 h2 h3, L.2.2⟩
theorem Sv.nl (S : Sv g.K c H σ env) : Sv g.nl.K c.nl H σ env := ⟨⟨S.base, fun z => Bool.noConfusion (show false = true from z), S.sO, S.dom, S.stt⟩, S.len, S.uniq, S.reg, fun i r z => ⟨(S.fzs i r z).1, (S.fzs i r z).2.inv, (S.fzs i r z).2.pl⟩, S.tree, S.own⟩
/-- own slots only looked at -/
@[reducible] def Sl.see : Sl → Sl
  | .own d => .v d
  | s => s
theorem see_no {i : Nat} {d : Dt} : (env.map Sl.see)[i]? ≠ some (Sl.own d) := fun z => by
  rw [List.getElem?_map] at z
  cases e : env[i]? with
  | none => rw [e] at z; cases z
  | some s => rw [e] at z; cases s <;> cases z
theorem see_fz {i : Nat} {r : Reg} (z : (env.map Sl.see)[i]? = some (Sl.fz r)) : env[i]? = some (Sl.fz r) := by
  rw [List.getElem?_map] at z
  cases e : env[i]? with
  | none => rw [e] at z; cases z
  | some s => rw [e] at z; cases s <;> cases z; rfl
theorem see_av {a : Addr} (h : Av c σ (env.map Sl.see) a) : c.O a := by
  rcases h with h | ⟨i, d, h, _⟩
  · exact h
  · exact absurd h see_no
theorem Sv.see (S : Sv g.K c H σ env) : Sv g.K c H σ (env.map Sl.see) := by
  refine ⟨S.toHb, by rw [S.len, List.length_map], fun i j d e a z => absurd z see_no, fun i d b z => absurd z see_no, fun i r z => S.fzs i r (see_fz z), fun i d z => ?_, fun i d z => absurd z see_no⟩
  rw [List.getElem?_map] at z
  cases e : env[i]? with
  | none => rw [e] at z; cases z
  | some s =>
    rw [e] at z
    cases s with
    | no => cases z
    | fz t => cases z
    | v t =>
      cases z
      obtain ⟨x, h1, h2⟩ := S.tree i _ e
      exact ⟨x, h1, h2.mono fun a z => .inl (see_av z)⟩
    | own t =>
      cases z
      obtain ⟨a, h1, h2, h3, h4⟩ := S.own i _ e
      exact ⟨_, h1, (h4.mono fun a z => .inl (see_av z)).rv fun b hb z => (S.oa e (hb.elim (fun q => .inl (by rw [q]; exact h1)) .inr)).2.1 (see_av z)⟩
/-- back from a look -/
theorem Sv.seen (S : Sv g.K c H σ env) (b : Hb g.K c.nl H1) (k : Ko (Mv c.nl σ (env.map Sl.see)) (An c.nl σ (env.map Sl.see)) H H1) : Sv g.K c H1 σ env ∧ Ko (Mv c σ env) (An c σ env) H H1 := by
  have mv : ∀ a, Mv c.nl σ (env.map Sl.see) a → Chg c.so c.cc a := fun a z => z.elim id fun ⟨i, d, z, _⟩ => absurd z see_no
  have kk : Ko (Mv c σ env) (An c σ env) H H1 := k.mono (fun a z => .inl (mv a z)) fun a _ => .inl rfl
  refine ⟨⟨⟨b.base, S.lkb, b.sO, b.dom, b.stt⟩, S.len, S.uniq, S.reg, S.fzs, fun j e z => ?_, fun j e z => ?_⟩, kk⟩
  · obtain ⟨x, h1, h2⟩ := S.tree j e z
    exact ⟨x, h1, S.kp h2 kk⟩
  · obtain ⟨y, z1, z2, z3, z4⟩ := S.own j e z
    exact ⟨y, z1, z2, z3, z4.keepR (kk.mono (Mv.av S.sO) fun _ z => z) (S.sameR k (fun a q n => n (S.sO a (mv a q)).1) (fun _ _ => .inl rfl) z z1)⟩
theorem eb_peek {P : Bool → List Sl → Prop} (hp : Eb g.nl (env.map Sl.see) tt fun b e => P b env) : Eb g env tt P := fun c L σ H S Q q =>
  hp c.nl (L.nl S.lkb) σ H (Sv.nl (Sv.see S)) Q fun b e' H1 p S1 l1 k1 => q b env H1 p (S.seen S1.toHb k1).1 Le.refl (S.seen S1.toHb k1).2
end
/-! ### a Bool that is known, or not -/
section
variable {A B : Prop} {b : Bool}
theorem bt (hb : b = true) (h : A) : isB (.bl b) fun b => if b = true then A else B := by rw [isB_bl]; subst hb; exact h
theorem bf (hb : b = false) (h : B) : isB (.bl b) fun b => if b = true then A else B := by rw [isB_bl]; subst hb; exact h
theorem b2 (h1 : b = true → A) (h2 : b = false → B) : isB (.bl b) fun b => if b = true then A else B := by
  rw [isB_bl]
  cases b with
  | true => exact h1 rfl
  | false => exact h2 rfl
theorem v2 (h1 : b = false → A) (h2 : b = true → B) : isB (.bl (!b)) fun b => if b = true then A else B := by
  rw [isB_bl]
  cases b with
  | true => exact h2 rfl
  | false => exact h1 rfl
theorem nt (hb : b = true) (h : B) : isB (.bl b) fun b => if (!b) = true then A else B := by rw [isB_bl]; subst hb; exact h
theorem nf (hb : b = false) (h : A) : isB (.bl b) fun b => if (!b) = true then A else B := by rw [isB_bl]; subst hb; exact h
theorem n2 (h1 : b = false → A) (h2 : b = true → B) : isB (.bl b) fun b => if (!b) = true then A else B := by
  rw [isB_bl]
  cases b with
  | true => exact h2 rfl
  | false => exact h1 rfl
end
/-! ### promises -/
theorem nolk {b : Bool} : lkle false b := fun z => nomatch z
theorem samelk {b : Bool} : lkle b b := id
/-- of one tree -/
abbrev R1 (pre : Dt → Prop) (f : Dt → Dt) : Rd3 := fun ds P _ => ∃ d, ds = [d] ∧ pre d ∧ P (f d)
theorem w_len {K : PySem.W.Frag} {R : Rd3} {lk : Bool} {vs : List V} {H : Hp} {Q : VK} {E : XK} (n : Nat) (h : spW K lk R vs H Q E) (hR : ∀ ds P xe, R ds P xe → ds.length = n) : vs.length = n := by
  obtain ⟨so, cc, O, ds, P, xe, hb, rs, hr, _⟩ := h
  rw [rs.1]
  exact hR _ _ _ hr
end Wv
/-! Facts in the form in which steps meet them. -/
namespace Wv
open PySem PySem.Spec PyProof.Rows L2 Evl
/-- what stands in a list or a tuple -/
def itL : Dt → Option (List Dt)
  | .lst ds => some ds
  | .tup ds => some ds
  | _ => none
theorem at0 (x : Dt) (xs : List Dt) : atI (x :: xs) 0 = some x := by
  unfold atI
  rw [show ixN (x :: xs).length 0 = some 0 from ixN_nat (j := 0) (by simp)]
  rfl
theorem at1 (x y : Dt) (xs : List Dt) : atI (x :: y :: xs) 1 = some y := by
  unfold atI
  rw [show ixN (x :: y :: xs).length 1 = some 1 from ixN_nat (j := 1) (by simp)]
  rfl
theorem at2 (x y z : Dt) (xs : List Dt) : atI (x :: y :: z :: xs) 2 = some z := by
  unfold atI
  rw [show ixN (x :: y :: z :: xs).length 2 = some 2 from ixN_nat (j := 2) (by simp)]
  rfl
theorem atN {xs : List Dt} {i : Nat} {x : Dt} (h : xs[i]? = some x) : atI xs (i : Int) = some x := by
  unfold atI
  rw [ixN_nat (List.getElem?_eq_some_iff.mp h).1]
  exact h
theorem itL_isS {d : Dt} {xs : List Dt} (h : itL d = some xs) : isS d = false ∧ isL d = true ∧ (tyD d).isSome = true := by
  cases d with
  | lst ys => exact ⟨rfl, rfl, rfl⟩
  | tup ys => exact ⟨rfl, rfl, rfl⟩
  | _ => cases h
theorem itL_ix {d : Dt} {xs : List Dt} (h : itL d = some xs) (i : Int) (k : Dt → Prop) : fIx d (.int i) k = ∃ t, atI xs i = some t ∧ k t := by
  cases d with
  | lst ys => cases h; rfl
  | tup ys => cases h; rfl
  | _ => cases h
theorem itL_len {d : Dt} {xs : List Dt} (h : itL d = some xs) (k : Dt → Prop) : fLen [d] k = k (.int xs.length) := by
  cases d with
  | lst ys => cases h; rfl
  | tup ys => cases h; rfl
  | _ => cases h
theorem itL_it {d : Dt} {xs : List Dt} (h : itL d = some xs) (k : List Dt → Prop) : itS d k = k xs := by
  cases d with
  | lst ys => cases h; rfl
  | tup ys => cases h; rfl
  | _ => cases h
theorem isL_it {d : Dt} (h : isL d = true) : ∃ xs, itL d = some xs := by
  cases d with
  | lst ys => exact ⟨ys, rfl⟩
  | tup ys => exact ⟨ys, rfl⟩
  | _ => cases h
theorem isL_no {d : Dt} (h : isL d = false) : itL d = none := by
  cases d with
  | lst ys => cases h
  | tup ys => cases h
  | _ => rfl
section
variable {d x y z : Dt} {xs : List Dt} {k : Dt → Prop} {kl : List Dt → Prop}
theorem fx0 (h : itL d = some (x :: xs)) (p : k x) : fIx d (.int 0) k := by rw [itL_ix h]; exact ⟨x, at0 _ _, p⟩
theorem fx1 (h : itL d = some (x :: y :: xs)) (p : k y) : fIx d (.int 1) k := by rw [itL_ix h]; exact ⟨y, at1 _ _ _, p⟩
theorem fx2 (h : itL d = some (x :: y :: z :: xs)) (p : k z) : fIx d (.int 2) k := by rw [itL_ix h]; exact ⟨z, at2 _ _ _ _, p⟩
theorem fxN {i : Nat} (h : itL d = some xs) (hi : xs[i]? = some x) (p : k x) : fIx d (.int (i : Int)) k := by rw [itL_ix h]; exact ⟨x, atN hi, p⟩
theorem fxlen (h : itL d = some xs) (p : k (.int xs.length)) : fLen [d] k := by rw [itL_len h]; exact p
theorem fxit (h : itL d = some xs) (p : kl xs) : itS d kl := by rw [itL_it h]; exact p
theorem r1_i {pre : Dt → Prop} {f : Dt → Dt} {xe : Addr → List (Str × Dt) → Prop} (h : pre d) (p : k (f d)) : R1 pre f [d] k xe := ⟨d, rfl, h, p⟩
theorem isTyI {A : Prop} (h : (tyD d).isSome = true) (p : A) : (tyD d).isSome = true ∧ A := ⟨h, p⟩
theorem lenI {n : Nat} {A : Prop} (h : Nat.ble n Zz = true) (p : A) : n ≤ Zz ∧ A := ⟨Nat.le_of_ble_eq_true h, p⟩
theorem nown_no {env : List Sl} {j : Nat} (h : env[j]? = some Sl.no) : nOwn env j := nown_of h fun _ z => nomatch z
theorem feq_i {i j : Int} (p : k (.bl (decide (i = j)))) : fEq (.int i) (.int j) k := p
theorem feq_s {a b : Str} (p : k (.bl (decide (a = b)))) : fEq (.str a) (.str b) k := p
theorem fne_i {i j : Int} (p : k (.bl (!decide (i = j)))) : fNe (.int i) (.int j) k := p
theorem fne_s {a b : Str} (p : k (.bl (!decide (a = b)))) : fNe (.str a) (.str b) k := p
end
end Wv
/-! Raising an own exception of one field. -/
namespace L2
open PySem PySem.Spec PyProof.Rows
section
variable {X : Cx} {C fI : Addr} {y x : Str} {K : PySem.W.Frag}
theorem _root_.L2.ExcC.ra {P : Program} (h : ExcC K C) (T : Sx.XTxt K P y C fI) : ∀ X : Cx, X.K = K → Raises X (.ref C) := fun X hK => by
  subst hK
  refine raises_own h.hs ?_
  obtain ⟨nm, q, N, bs, bm, sn, sub, ab, col, dd, k0, k1, k2, k3, k5, hC, _⟩ := T.cls
  show (List.lookup C X.K).map (fun x => x.cls) = _
  rw [hC]
  rfl
/-- C(a), raised: its dict stands, the exception itself is let go -/
def tMkR (C : Addr) (y : Str) (ta : TA) : St → Hp → XK → Prop := fun σ H Q => ta σ H fun vs H1 => ∃ v, vs = [v] ∧ ∀ d, H1 d = none → Q (.ref C) (some d) (upd H1 d (.xd [(y, v)]))
theorem pmk_sx {a : Expr} {ta : TA} {p pos : Pos} {k : Nat} (T : Sx.XTxt X.K X.prog y C fI) (hr : Room (k + 1) X.A) (hm : X.mg x = some (.ref C)) (rs : ∀ X : Cx, X.K = K → Raises X (.ref C)) (ha : PA X [a] ta) (hg : Gl X x := by rfl) (hK : X.K = K := by rfl)
    (he : starEach (a :: []) X.env = (false, eval a X.env) :: starEach [] X.env := by rfl) (hpl : (backTo pos (starEach [] X.env)).any (·.1) = false := by rfl) (hdb : (x == ("__debug__" : Str)) = false := by decide) :
    PMk X (.Call (.Name x p) [a] [] pos) (tMkR C y ta) := by
  intro pins s σ H Q I h
  refine wpAny_Call_Name_kw (ld_glob I hg hm ?_ hdb)
  refine PySem.W.callWith_K (h₀ := X.base) I.ok.mod.kin T.kC (thn (ha.run pos pins s σ H _ I h) fun us s1 hh => ?_) he hpl
  obtain ⟨vs, H1, I1, r1, v, ev, q1⟩ := hh
  subst ev
  refine ⟨I1.kIn, ?_⟩
  cases r1 with
  | cons rv rn =>
    rename_i v' us'
    cases rn
    show wpAny _ _ (call (.ref C) [v']) _ _ _
    have hlim := I1.nolimit
    obtain ⟨mb, h1, h2⟩ := I1.mod.blt
    have G := I1.mod.glob.keeps I1.bk
    have B := h1.keeps I1.bk
    have KI := I1.kIn
    have bare := I1.bare
    obtain ⟨hp, g, dr, tk, os⟩ := s1
    refine wpAny_call (Sx.sx_made T KI G ⟨mb, B, h2⟩ hlim (by have := hr.dp; omega) fun h' tk' e d M => ?_)
    obtain ⟨t1, hoe⟩ := M.obj
    obtain ⟨G', g1, g2⟩ := restrict h' fun b => decide (b ≠ e)
    have gk : ∀ b, b ≠ e → G'.get? b = h'.get? b := fun b hb => g1 b (decide_eq_true hb)
    have ge : G'.get? e = none := g2 e (by simp)
    have old : ∀ b o, hp.get? b = some o → G'.get? b = some o := fun b o q => (gk b (Nat.ne_of_lt (Nat.lt_of_lt_of_le (Heap.lt_size q) M.new))).trans (M.keep b o q)
    have ob : ObjOk X.prog X.w (upd H1 d (.xd [(y, v)])) G' d (.xd [(y, v)]) := ⟨_, M.ns.at (fun o q => (gk d M.dne).trans q), fun f => relO_y rv f⟩
    have J : Inv X pins σ (upd H1 d (.xd [(y, v)])) ⟨G', g, dr, tk', os⟩ := I1.laid (t' := tk') old M.dbig ob
    have hd := I1.hok.fresh M.dbig
    have hen := I1.hok.fresh M.new
    have hn : (upd H1 d (.xd [(y, v)])) e = none := by rw [upd_ne (Ne.symm M.dne)]; exact hen
    refine ⟨e, _, _, ⟨G', g, dr, tk', os⟩, _, .ref C, some d, rfl, J, fun b o q => ?_, ge, hoe, ⟨rfl, rfl⟩, rfl, rfl, hn, rfl, bare, rs X hK, q1 d hd⟩
    exact (gk b (fun z => by rw [z] at q; have q' : G'.get? e = some o := q; rw [ge] at q'; cases q')).symm.trans q
def tRaise (t : St → Hp → XK → Prop) (E : XK) : TS := fun _ σ H => t σ H fun cls d H' => E cls d H'
theorem ps_raiseW {E : XK} {e : Expr} {t : St → Hp → XK → Prop} {pos : Pos} (hc : X.calm = true) (tk : Takes X (fun cls d _ H => E cls d H)) (he : PMk X e t) : PS X (.Raise (some e) none pos) (tRaise t E) := ps_raise hc tk he
end
end L2
namespace Wv
open PySem PySem.Spec PyProof.Rows L2 Evl
section
variable {g : Gx} {c : Cc} {H H1 H2 H' : Hp} {σ : L2.St} {env e1 : List Sl} {E : De}
theorem raise_ok {C : Addr} {y : Str} {x : V} {d : Dt} {p : Addr} (L : Lk g c) (S : Hb g.K c H1) (hx : g.xe C [(y, d)]) (r : Rv c.so c.O H1 x d) (hp : H1 p = none) : g.E (.ref C) (some p) (upd H1 p (.xd [(y, x)])) := by
  refine L.2.1 C _ hx _ p [(y, x)] ⟨S.base.trans (Ko.new hp), S.lkb, S.sO, fun a z => upd_some (S.dom a z), S.stt.ex (Ex.new hp)⟩ upd_same rfl fun i k x' k' t e1 e2 => ?_
  cases i with
  | zero => cases e1; cases e2; exact r.ex (Ex.new hp)
  | succ i => cases e1
theorem wd_raise {C : Addr} {y : Str} {ta : TA} (h : Ea g env ta fun ds _ => ∃ d, ds = [d] ∧ g.xe C [(y, d)]) : Wd g env (tRaise (tMkR C y ta) g.E) E := fun c L σ H S D _ _ _ _ _ =>
  h c L σ H S _ fun xs ds e1 H1 ⟨d, e0, hx⟩ S1 _ _ r1 => by
    subst e0
    obtain ⟨hl, hr⟩ := r1
    match xs, hl with
    | [x], _ => exact ⟨x, rfl, fun p hp => raise_ok L S1.toHb hx ((hr 0 x d rfl rfl).mono fun a z => .inl z) hp⟩
end
end Wv
/-! remove of a text, items of own lists and dicts, dict comprehensions. -/
namespace L2
open PySem PySem.Spec PyProof.Rows
def eqz (k : Str) (v : Value) : Bool := match v with
  | .str n _ => n.cps.toList == k.cps.toList
  | _ => false
section
variable {X : Cx}
def rRemZ : V → List V → Hp → VK → Prop := fun x xs H Q => ∃ (l : Addr) (ns : List Str) (k : Str) (j : Nat), x = .ref l ∧ xs = [.str k] ∧ H l = some (.lst (ns.map V.str)) ∧ ns[j]? = some k ∧ (∀ m : Nat, m < j → ns[m]? ≠ some k) ∧ Q .non (upd H l (.lst ((ns.eraseIdx j).map V.str)))
theorem erase_mapG {α β : Type} (f : α → β) : ∀ (l : List α) (j : Nat), (l.map f).eraseIdx j = (l.eraseIdx j).map f
  | [], j => by simp
  | a :: r, 0 => by simp
  | a :: r, j + 1 => by
    have ih := erase_mapG f r j
    simp [ih]
theorem mt_removeF : MtM X "list.remove" rRemZ := by
  intro pins s σ H x xs v us Q I rx rxs h
  obtain ⟨l, ns, k, j, rfl, rfl, hH, hj, hno, q⟩ := h
  cases rx
  obtain ⟨u, rfl, ru⟩ := rxs.one
  obtain ⟨t, rfl⟩ := ru
  obtain ⟨z, its, n, r, hl, e⟩ := I.lstM hH
  rw [List.length_map] at hl z
  have at_ : ∀ (i : Nat) (q : Str), ns[i]? = some q → ∃ t, its[i]? = some (.str q t) := fun i q hi => by
    obtain ⟨u, h1, t, h2⟩ := r.get (i := i) (x := .str q) (by rw [List.getElem?_map, hi]; rfl)
    exact ⟨t, by rw [h1, h2]⟩
  have hjn : j < ns.length := (List.getElem?_eq_some_iff.mp hj).1
  have hjl : j < its.toArray.size := by rw [List.size_toArray]; omega
  refine call_meets PySem.F.slot_list_remove ⟨_, e, rfl⟩ PySem.F.entry_list_remove (PySem.F.args_list_remove_2 _ _)
    (MeetsSeq.list_remove l its.toArray n (.str k t) (eqz k) (fun y hy => ?_) j hjl ?_ ?_ (by rw [List.size_toArray]; omega)) ⟨e, ?_⟩
  · obtain ⟨i, hi⟩ := List.mem_iff_getElem?.mp (show y ∈ its by simpa using hy)
    have hin : i < ns.length := by have := (List.getElem?_eq_some_iff.mp hi).1; omega
    obtain ⟨t', e'⟩ := at_ i _ (List.getElem?_eq_getElem hin)
    rw [hi] at e'
    cases e'
    exact SeqRoads2.EqGives.str ns[i] k t' t
  · obtain ⟨tj, hjt⟩ := at_ j k hj
    obtain ⟨h1, h2⟩ := List.getElem?_eq_some_iff.mp hjt
    have e1 : its.toArray[j] = .str k tj := by simpa using h2
    rw [e1]
    exact beq_self_eq_true k.cps.toList
  · intro m hm hmj
    have hmn : m < ns.length := by omega
    obtain ⟨tm, hmt⟩ := at_ m _ (List.getElem?_eq_getElem hmn)
    obtain ⟨h1, h2⟩ := List.getElem?_eq_some_iff.mp hmt
    have e1 : its.toArray[m] = .str ns[m] tm := by simpa using h2
    rw [e1]
    refine beq_eq_false_iff_ne.mpr fun e2 => hno m hmj ?_
    have e3 : ns[m] = k := by
      cases hq : ns[m] with
      | mk c1 =>
        cases k with
        | mk c2 =>
          rw [hq] at e2
          have e2 : c1.toList = c2.toList := e2
          rw [Array.toList_inj.mp e2]
    rw [List.getElem?_eq_getElem hmn, e3]
  · have rr := r.eraseIdx j
    rw [erase_mapG] at rr
    refine ⟨.non, _, I.lset (its' := its.eraseIdx j) (t' := s.toks) hH e ?_ rr ?_, rfl, q⟩
    · show its.toArray.eraseIdxIfInBounds j = (its.eraseIdx j).toArray
      rw [List.eraseIdxIfInBounds_toArray]
    · rw [List.length_map, List.length_eraseIdx]
      split <;> omega
end
end L2
namespace L2
open PySem PySem.Spec PyProof.Rows
section
variable {X : Cx} {wi : TI} {g : TG} {tt : TT} {tk tv : TE} {kx vx tg iter : Expr} {ifs : List Expr} {scope : Scope} {own : List (Str × Nat)} {pos spos py : Pos} {y : Str}
theorem sw_dc {gs : List Comprehension} {l : Nat} {env : Env} (hk : env.scope.kind = .function) (hy : env.scope.names.lookup y = some .local) (hl : (py.line == pos.line) = true) (ha : (scope.names.any fun (n, k) => n == y && (k == .local || k == .cell)) = false) :
    swapsWith (.DictComp kx vx gs scope pos) (some (.Name y py)) l env = pure true := by
  have hb : env.blockKind = .function := by
    unfold Env.blockKind
    rw [hk]
    rfl
  have ky : env.kindOf y = some .local := hy
  unfold swapsWith
  simp only [hb, ky, ha, Expr.pos, hl]
  rfl
theorem pg_tupK {K : PySem.W.Frag} {es : List Expr} {k n : Nat} {t : TGs} (hc : X.calm = true) (h : PGs X es t) (hK : X.K = K := by rfl) (hn : (assignEach es X.env).length = n := by rfl) (hst : (assignEach es X.env).findIdx? (·.1) = none := by rfl) :
    PG X (.Tuple es k pos) (gTup K n t) := by
  subst hK
  exact pg_tup hc h hn hst
theorem pi_anyK {K : PySem.W.Frag} {l : Expr} {tl : TE} (hl : PE X l tl) (hK : X.K = K := by rfl) : PI X tg l (iAny K tl) := by
  subst hK
  exact pi_any hl
/-- name = {k: v for ..} on one line, the name a local -/
theorem ps_setDc {i : Nat} (hc : X.calm = true) (hN : X.N.Nodup) (hy : X.N[i]? = some y) (hyl : X.env.scope.names.lookup y = some .local) (hsw : swapsWith (.DictComp kx vx [⟨tg, iter, ifs, 0⟩] scope pos) (some (.Name y py)) spos.line X.env = pure true)
    (hi : PI X tg iter wi) (ok : BlkOk X.N X.env.scope scope own) (hg : ∀ (s : Shared) (H : Hp) (C : Addr) (cl : List (Str × Addr)) (fp : List Addr), PG (X.blk s H scope (compEnvC scope cl C X.env) fp) tg g)
    (ht : ∀ (s : Shared) (H : Hp) (C : Addr) (cl : List (Str × Addr)) (fp : List Addr), PTs (X.blk s H scope (compEnvC scope cl C X.env) fp) ifs tt) (hk : ∀ (s : Shared) (H : Hp) (C : Addr) (cl : List (Str × Addr)) (fp : List Addr), PE (X.blk s H scope (compEnvC scope cl C X.env) fp) kx tk)
    (he : ∀ (s : Shared) (H : Hp) (C : Addr) (cl : List (Str × Addr)) (fp : List Addr), PE (X.blk s H scope (compEnvC scope cl C X.env) fp) vx tv) (hs : ∀ x, foldedSetIterable iter X.env x = pure x := by intro _; rfl) :
    PS X (.Assign [.Name y py] (.DictComp kx vx [⟨tg, iter, ifs, 0⟩] scope pos) spos) (tAsg (tDc wi g tt tk tv (own.map (·.2))) (gName i)) := by
  refine ⟨fun pins s σ H D I h => ?_⟩
  rw [exec_Assign_Name_used _ _ _ _ hsw]
  refine wpAny_bind (wpAny_standAt (wpAny_bind ?_))
  show wpAny _ X.A (do
    let _ ← comprehension (.DictComp kx vx [⟨tg, iter, ifs, 0⟩] scope pos) scope X.env (firstIterPos [⟨tg, iter, ifs, 0⟩] pos) newDict false (eval iter X.env) (some (assign (.Name y py) X.env))) _ _ s
  have h : tDc wi g tt tk tv (own.map (·.2)) σ H (fun x H1 => gName i x σ H1 D.nx) := h
  refine wpAny_bind (thn (dc_core (Qf := fun _ s' => SP X pins D .next s') hc hN I hi ok hg ht hk he hs h fun L C s' m H' I' q hn f => ?_) fun _ s' hq => wpAny_pure (wpAny_pure hq))
  show wpAny _ _ (assign (.Name y py) X.env (.ref L)) _ _ _
  refine wpAny_assign_Name (store_ok2 (v := V.ref L) I' hN hy (.inl hyl) rfl (fun s2 I2 ⟨a, sb, ha⟩ => ?_) (.inr hyl))
  obtain ⟨f0, f1, f2, f3, f4, f5⟩ := f
  have haC : C ≠ a := by
    rcases ha with z | z
    · rw [z]
      exact f1
    · exact fun e => f4 y a z e.symm
  refine ⟨m, hn.sameBut sb haC, fun h3 sb3 => ?_⟩
  exact ⟨_, H', I2.turned (t' := s2.toks) (fun b o hb e => (sb3.2 b hb).trans e) f0 f1 f3 f4 f5, q⟩
end
end L2
namespace Wv
open PySem PySem.Spec PyProof.Rows L2 Evl
section
variable {g : Gx} {c : Cc} {H H1 H2 H' : Hp} {σ : L2.St} {env e1 : List Sl} {ta tb te tk tv : TE} {tt : TT} {P : Dt → List Sl → Prop} {E : De} {x : V} {d : Dt} {so : Option Addr} {O : Addr → Prop}
/-- found[k], an own list or dict: its item -/
theorem et_ixO {i : Nat} {d0 : Dt} (h0 : env[i]? = some (Sl.own d0)) (h : Et g env tb fun e e2 => ∃ d, e2[i]? = some (Sl.own d) ∧ fIx d e fun t => P t e2) : Et g env (tOp (rIxA g.K) (tVar i) tb) P := fun c L σ H S Q q => by
  obtain ⟨a, h1, _⟩ := S.own i d0 h0
  refine ⟨.ref a, h1, h c L σ H S _ fun y e env2 H2 ⟨d, hd, p2⟩ S2 l2 k2 r2 => ?_⟩
  obtain ⟨a', h1', _, _, o⟩ := S2.own i d hd
  rw [h1] at h1'
  cases h1'
  cases d with
  | lst ds =>
    obtain ⟨xs, z1, z2, z3, z4⟩ := o
    cases e with
    | int n =>
      obtain ⟨t, ht, p⟩ := p2
      cases int_rv r2
      obtain ⟨v, w1, w2⟩ := at_rvs (show Rvs c.so (Av c σ env2) H2 xs ds from ⟨z2, z4⟩) ht
      exact .inl (.inl ⟨a, xs, n, v, rfl, rfl, .inl (.inl z1), w1, q v t env2 H2 p S2 l2 k2 w2⟩)
    | _ => exact p2.elim
  | tup ds =>
    obtain ⟨xs, z1, z2, z3, z4⟩ := o
    cases e with
    | int n =>
      obtain ⟨t, ht, p⟩ := p2
      cases int_rv r2
      obtain ⟨v, w1, w2⟩ := at_rvs (show Rvs c.so (Av c σ env2) H2 xs ds from ⟨z2, z4⟩) ht
      exact .inl (.inr (.inl ⟨a, xs, n, v, rfl, rfl, .inl (.inl z1), w1, q v t env2 H2 p S2 l2 k2 w2⟩))
    | _ => exact p2.elim
  | dct kvs =>
    obtain ⟨xs, z1, z2, z3, z4⟩ := o
    have go : ∀ (k : Key) t, y = kV k → dlk kvs k = some t → P t env2 → rIxA g.K (.ref a) y H2 Q := fun k t e1 h p => by
      have tv := (show Tb c.so (Av c σ env2) H2 xs kvs from ⟨z2, z4⟩).val (k := k)
      rw [h] at tv
      obtain ⟨v, w1, w2⟩ := tv
      exact .inr ⟨a, v, rfl, .inl ⟨xs, k, .inl z1, e1, w1.symm⟩, q v t env2 H2 p S2 l2 k2 w2⟩
    cases e with
    | str z =>
      obtain ⟨t, h, p⟩ := p2
      exact go (.inr z) t (str_rv r2).1 h p
    | int i =>
      obtain ⟨t, h, p⟩ := p2
      exact go (.inl i) t (int_rv r2) h p
    | _ => exact p2.elim
  | dtn hs ds => exact (show False from p2).elim
  | dto b hs ds => exact (show False from p2).elim
  | ob r t => exact (show False from p2).elim
  | _ => exact o.elim
theorem et_opRo {r : R2} {f : Dt → Dt → (Dt → Prop) → Prop} {i : Nat} {d0 : Dt} (hr : Rop g.K r f) (h0 : env[i]? = some (Sl.own d0)) (h : Et g env ta fun e e2 => ∃ d, e2[i]? = some (Sl.own d) ∧ f e d fun t => scl t = true ∧ P t e2) : Et g env (tOp r ta (tVar i)) P := et_opR hr h
theorem sclI {d : Dt} {A : Prop} (h : scl d = true) (p : A) : scl d = true ∧ A := ⟨h, p⟩
theorem Cq.wr_dct {D : Addr} {acc : List (Key × Dt)} {xs : List (Key × V)} {k : Key} {t : Dt} (q : Cq g c σ e1 H1 D (.dct acc) H') (S1 : Sv g.K c H1 σ e1) (hD : H1 D = none) (hx : H' D = some (.dK xs)) (hz : acc.length < Zz) (r : Rv c.so (Av (c.add D) σ e1) H' x t) :
    Cq g c σ e1 H1 D (.dct (dpt acc k t)) (upd H' D (.dK (putK xs k x))) := by
  obtain ⟨xs', z1, z2, z3, z4⟩ := q.ol
  rw [hx] at z1
  cases z1
  have kD : Ko (Av (c.add D) σ e1) c.O H' (upd H' D (.dK (putK xs k x))) := Ko.mut (.inl (.inr rfl))
  have tb := ((show Tb c.so (Av (c.add D) σ e1) H' xs acc from ⟨z2, z4⟩).put (k := k) r).keep kD
  exact q.write S1 hD ⟨_, upd_same, tb.1, Nat.le_trans (dpt_len _ _ _) hz, tb.2⟩
/-- {k: v for x in .. if ..} -/
theorem ef_dc {wi : TI} {j : Nat} (h : Ei g env wi fun ds e1 => nOwn e1 j ∧ ∃ I : Nat → List (Key × Dt) → Prop, I 0 [] ∧ (∀ i d acc, ds[i]? = some d → I i acc → Eb g (e1.set j (.v d)) tt fun b e2 => e2 = e1.set j (.v d) ∧
    if b = true then Et g (e1.set j (.v d)) tk fun k e3 => e3 = e1.set j (.v d) ∧ kD k fun kk => Et g (e1.set j (.v d)) tv fun t e4 => e4 = e1.set j (.v d) ∧ I (i + 1) (dpt acc kk t) else I (i + 1) acc) ∧ ∀ acc, I ds.length acc → P (.dct acc) e1) : Ef g env (tDc wi (gName j) tt tk tv [j]) P := fun c L σ H S Q q => by
  refine h c L σ H S _ fun J ds e1 H1 ⟨hj, I, i0, hs, hd⟩ S1 l1 k1 w D hD => ?_
  refine ⟨fun i m H' => m = ds.length - i ∧ i ≤ ds.length ∧ ∃ acc, acc.length ≤ i ∧ I i acc ∧ Cq g c σ e1 H1 D (.dct acc) H',
    ⟨_, rfl, Nat.zero_le _, [], Nat.le_refl _, i0, Cq.start S1 hD ⟨[], upd_same, rfl, Nat.zero_le _, fun i k x k' d z => by simp at z⟩⟩, ?_⟩
  rintro i m H' ⟨rfl, hi, acc, hal, hI, C'⟩
  have ka := C'.kf.mono (A' := Av c σ e1) (Mv.av S1.sO) fun _ z => .inr z
  by_cases hlt : i < ds.length
  · refine .inr ⟨w.go i H' hlt ka, fun H2 => ∃ acc, acc.length ≤ i + 1 ∧ I (i + 1) acc ∧ Cq g c σ e1 H1 D (.dct acc) H2, fun H2 z => ⟨ds.length - (i + 1), by omega, rfl, hlt, z⟩, fun x H'' y => ?_⟩
    obtain ⟨e, d, ed, rd⟩ := w.yld (Av (c.add D) σ e1) i H' x H'' hlt ka (fun a z => by
      rcases Av.add.mp z with z | z
      · exact .inl z
      · exact .inr (by rw [z]; exact hD)) C'.sv.lk_av y
    obtain ⟨C2, Sb⟩ := C'.into (j := j) e rd
    show wipe ((wipe σ [j]).set j (some x)) [j] = wipe σ [j] ∧ tt ((wipe σ [j]).set j (some x)) H'' _
    refine ⟨wipe_back1, ?_⟩
    rw [wipe_set1]
    refine hs i d acc ed hI (c.add D) (L.add S1.sO) (σ.set j (some x)) H'' Sb _ fun b e2 H3 ⟨e0, pb⟩ S3 l3 k3 => ?_
    subst e0
    have C3 := C2.step S1 hD hj Sb S3 k3
    cases b with
    | false => exact ⟨acc, Nat.le_succ_of_le hal, pb, C3⟩
    | true =>
      refine pb (c.add D) (L.add S1.sO) (σ.set j (some x)) H3 S3 _ fun yk kd e3 H4 ⟨e0, pk⟩ S4 l4 k4 r4 => ?_
      subst e0
      have C4 := C3.step S1 hD hj S3 S4 k4
      obtain ⟨kk, rfl, pk⟩ := kD_rv r4 pk
      refine pk (c.add D) (L.add S1.sO) (σ.set j (some x)) H4 S4 _ fun y t e4 H5 ⟨e0, pt⟩ S5 l5 k5 r5 => ?_
      subst e0
      have C5 := C4.step S1 hD hj S4 S5 k5
      obtain ⟨xs, z1, z2, z3, z4⟩ := C5.ol
      have hl := w.len
      have hxl : xs.length = acc.length := by simpa using congrArg List.length z2
      exact ⟨xs, kk, rfl, z1, Nat.lt_of_lt_of_le (show xs.length < Zz by omega) (by decide), dpt acc kk t, Nat.le_trans (dpt_len _ _ _) (by omega), pt, C5.wr_dct S1 hD z1 (by omega) (Cq.out hj r5)⟩
  · have : i = ds.length := by omega
    subst this
    exact .inl ⟨w.stop H' ka, q D (.dct acc) e1 H' (hd acc hI) C'.sv l1 (k1.trans (C'.kf.le l1)) (k1.back hD) C'.ol⟩
/-- found.remove(z): texts in an own list -/
theorem et_remove {i : Nat} {ds0 : List Dt} (h0 : env[i]? = some (Sl.own (.lst ds0))) (h : Et g env te fun n e => ∃ (ns : List Str) (k : Str) (j : Nat), n = .str k ∧ e[i]? = some (Sl.own (.lst (ns.map Dt.str))) ∧ ns[j]? = some k ∧ (∀ m : Nat, m < j → ns[m]? ≠ some k) ∧ P .non (e.set i (.own (.lst ((ns.eraseIdx j).map Dt.str))))) :
    Et g env (tBM g.K "list" rRemZ (tVar i) (tCons te tNil)) P := fun c L σ H S Q q => by
  obtain ⟨p, h1, _, _, xs, h4, _⟩ := S.own i _ h0
  refine ⟨.ref p, h1, .inl ⟨rfl, xs, sq_of h4⟩, h c L σ H S _ fun x n e1 H1 ⟨ns, k, j, e0, hd, hk, hno, pp⟩ S1 l1 k1 r1 => ?_⟩
  subst e0
  cases (str_rv r1).1
  obtain ⟨p', w1, _, _, ys, w4, w5, w6, w7⟩ := S1.own i _ hd
  rw [h1] at w1
  cases w1
  have rs : Rvs c.so (Av c σ e1) H1 ys (ns.map Dt.str) := ⟨w5, w7⟩
  have ey : ys = ns.map V.str := by
    refine List.ext_getElem? fun n => ?_
    cases hn : ns[n]? with
    | none =>
      have : ns.length ≤ n := List.getElem?_eq_none_iff.mp hn
      rw [List.getElem?_map, hn]
      exact List.getElem?_eq_none_iff.mpr (by rw [w5, List.length_map]; exact this)
    | some z =>
      obtain ⟨y, hy, ry⟩ := rs.get (i := n) (d := .str z) (by rw [List.getElem?_map, hn]; rfl)
      rw [hy, List.getElem?_map, hn, (str_rv ry).1]
      rfl
  subst ey
  have hp : Av c σ e1 p := .inr ⟨i, _, hd, .inl h1⟩
  have rs' : Rvs c.so (Av c σ e1) (upd H1 p (.lst ((ns.eraseIdx j).map V.str))) ((ns.eraseIdx j).map V.str) ((ns.eraseIdx j).map Dt.str) := by
    have := (rs.eraseIdx j).keep (A := c.O) (Ko.mut (o := .lst ((ns.eraseIdx j).map V.str)) hp)
    rw [erase_mapG, erase_mapG] at this
    exact this
  have S2 := S1.put (e := .lst ((ns.eraseIdx j).map Dt.str)) hd h1 ⟨_, upd_same, rs'.1, by rw [List.length_map, List.length_eraseIdx]; rw [List.length_map] at w6; split <;> omega, rs'.2⟩
  refine ⟨p, ns, k, j, rfl, rfl, w4, hk, hno, q _ _ _ _ pp S2 (fun j e he => ?_) (k1.trans (Ko.le (fw_put (e := .lst ((ns.eraseIdx j).map Dt.str)) hd h1).1 l1)) .non⟩
  rcases Sl.get_set he with ⟨ej, q⟩ | ⟨_, z⟩
  · cases q
    rw [ej]
    exact l1 i (.lst (ns.map Dt.str)) hd
  · exact l1 j e z
end
/-! ### tables -/
theorem dlk_mem {kvs : List (Key × Dt)} {k : Key} {t : Dt} (h : dlk kvs k = some t) : (k, t) ∈ kvs := by
  unfold dlk at h
  cases e : kvs.find? fun kv => decide (kv.1 = k) with
  | none => rw [e] at h; cases h
  | some q =>
    rw [e] at h
    cases h
    have h1 := List.mem_of_find?_eq_some e
    have h2 := List.find?_some e
    rw [← of_decide_eq_true h2]
    exact h1
theorem dlk_some {kvs : List (Key × Dt)} {q : Key × Dt} (h : q ∈ kvs) : ∃ t, dlk kvs q.1 = some t := by
  unfold dlk
  cases e : kvs.find? fun kv => decide (kv.1 = q.1) with
  | none => exact absurd (decide_eq_true rfl) (List.find?_eq_none.mp e q h)
  | some p => exact ⟨p.2, rfl⟩
theorem dlk_app {xs ys : List (Key × Dt)} {k : Key} : dlk (xs ++ ys) k = (dlk xs k).or (dlk ys k) := by
  unfold dlk
  rw [List.find?_append]
  cases xs.find? fun kv => decide (kv.1 = k) <;> rfl
theorem dlk_none {kvs : List (Key × Dt)} {k : Key} (h : (kvs.any fun kv => decide (kv.1 = k)) = false) : dlk kvs k = none := by
  unfold dlk
  rw [List.find?_eq_none.mpr fun q hq z => by rw [List.any_eq_false.mp h q hq |> fun w => (by simpa using w : ¬ q.1 = k) |> (decide_eq_false ·)] at z; cases z]
  rfl
theorem dlk_map {kvs : List (Key × Dt)} {k j : Key} {v : Dt} : dlk (kvs.map fun kv => if kv.1 = k then (kv.1, v) else kv) j = if j = k then (dlk kvs j).map (fun _ => v) else dlk kvs j := by
  induction kvs with
  | nil => unfold dlk; split <;> rfl
  | cons q kvs ih =>
    rw [List.map_cons]
    by_cases h1 : q.1 = k
    · rw [if_pos h1]
      by_cases h2 : q.1 = j
      · rw [dlk_pos (p := (q.1, v)) h2, dlk_pos h2, if_pos (h2.symm.trans h1)]
        rfl
      · rw [dlk_neg (p := (q.1, v)) h2, dlk_neg h2, ih]
    · rw [if_neg h1]
      by_cases h2 : q.1 = j
      · rw [dlk_pos h2, dlk_pos h2, if_neg fun z => h1 (h2.trans z)]
      · rw [dlk_neg h2, dlk_neg h2, ih]
theorem dlk_dpt {kvs : List (Key × Dt)} {k j : Key} {v : Dt} : dlk (dpt kvs k v) j = if j = k then some v else dlk kvs j := by
  unfold dpt
  cases h : kvs.any fun kv => decide (kv.1 = k) with
  | true =>
    rw [if_pos rfl, dlk_map]
    by_cases e : j = k
    · subst e
      rw [if_pos rfl, if_pos rfl]
      obtain ⟨q, hq, hk⟩ := List.any_eq_true.mp h
      obtain ⟨t, ht⟩ := dlk_some hq
      rw [of_decide_eq_true hk] at ht
      rw [ht]
      rfl
    · rw [if_neg e, if_neg e]
  | false =>
    rw [if_neg (by intro z; cases z), dlk_app]
    by_cases e : j = k
    · subst e
      rw [dlk_none h, if_pos rfl]
      show dlk [(j, v)] j = _
      rw [dlk_pos rfl]
    · rw [if_neg e]
      have : dlk [(k, v)] j = none := by rw [dlk_neg (fun z => e z.symm)]; rfl
      rw [this]
      cases dlk kvs j <;> rfl
theorem okT_k (k : Key) : (tyD (kDt k)).isSome = true := by cases k <;> rfl
end Wv
/-! Data that == can be asked of. -/
namespace Wv
open PySem PySem.Spec PyProof.Rows L2 Evl
section
variable {g : Gx} {env : List Sl} {te : TE} {P : Dt → List Sl → Prop}
theorem et_neg (h : Et g env te fun d e => ∃ i, d = .int i ∧ P (.int (-i)) e) : Et g env (tUn (rU fun i => .int (-i)) te) P := fun c L σ H S Q q =>
  h c L σ H S _ fun x d e H1 ⟨i, e0, p⟩ S1 l k r => by
    subst e0
    cases int_rv r
    exact ⟨i, rfl, q _ _ e H1 p S1 l k (.int _)⟩
end
theorem eqF_any (q : Str) (f : List Str) : ((f.map Dt.str).any fun e => eqF e (.str q)) = decide (q ∈ f) := by
  induction f with
  | nil => rfl
  | cons a f ih =>
    rw [List.map_cons, List.any_cons, ih]
    show ((a == q) || _) = _
    by_cases h : a = q
    · rw [h, beq_self_eq_true, Bool.true_or, decide_eq_true (List.mem_cons_self ..)]
    · rw [beq_eq_false_iff_ne.mpr h, Bool.false_or]
      by_cases h2 : q ∈ f
      · rw [decide_eq_true h2, decide_eq_true (List.mem_cons_of_mem _ h2)]
      · rw [decide_eq_false h2, decide_eq_false fun z => (List.mem_cons.mp z).elim (fun z => h z.symm) h2]
theorem all_flS (f : List Str) : (f.map Dt.str).all flD = true := by
  induction f with
  | nil => rfl
  | cons a f ih => rw [List.map_cons, List.all_cons, ih]; rfl
theorem fin_s {q : Str} {f : List Str} {k : Dt → Prop} (p : k (.bl (decide (q ∈ f)))) : fIn false (.str q) (.lst (f.map .str)) k := by
  refine ⟨rfl, all_flS f, ?_⟩
  show k (.bl ((f.map Dt.str).any fun e => eqF e (.str q)))
  rw [eqF_any]
  exact p
theorem fni_s {q : Str} {f : List Str} {k : Dt → Prop} (p : k (.bl (!decide (q ∈ f)))) : fIn true (.str q) (.lst (f.map .str)) k := by
  refine ⟨rfl, all_flS f, ?_⟩
  show k (.bl (!(f.map Dt.str).any fun e => eqF e (.str q)))
  rw [eqF_any]
  exact p
mutual
def dep : Dt → Nat
  | .lst xs => deps xs + 1
  | .tup xs => deps xs + 1
  | _ => 0
def deps : List Dt → Nat
  | [] => 0
  | x :: xs => max (dep x) (deps xs)
end
theorem dep_lst (xs : List Dt) : dep (.lst xs) = deps xs + 1 := by unfold dep; rfl
theorem dep_tup (xs : List Dt) : dep (.tup xs) = deps xs + 1 := by unfold dep; rfl
theorem dep_mem {x : Dt} : ∀ {xs : List Dt}, x ∈ xs → dep x ≤ deps xs
  | y :: ys, h => by
    unfold deps
    rcases List.mem_cons.mp h with e | h
    · rw [e]; omega
    · have := dep_mem h; omega
theorem deps_le {n : Nat} : ∀ {xs : List Dt}, (∀ x ∈ xs, dep x ≤ n) → deps xs ≤ n
  | [], _ => Nat.zero_le _
  | y :: ys, h => by
    unfold deps
    have h1 := h y (List.mem_cons_self ..)
    have h2 := deps_le fun x hx => h x (List.mem_cons_of_mem _ hx)
    omega
mutual
/-- numbers, texts, lists and tuples -/
def dat : Dt → Bool
  | .lst xs => dats xs
  | .tup xs => dats xs
  | .dct _ => false
  | .ins _ _ => false
  | .st => false
  | .dtn _ _ => false
  | .dto _ _ _ => false
  | .ob _ _ => false
  | .ad _ => false
  | .opq => false
  | .str z => PyData.strOk z
  | _ => true
def dats : List Dt → Bool
  | [] => true
  | x :: xs => dat x && dats xs
end
theorem dats_of : ∀ {xs : List Dt}, (∀ x ∈ xs, dat x = true) → dats xs = true
  | [], _ => rfl
  | y :: ys, h => by
    unfold dats
    rw [h y (List.mem_cons_self ..), dats_of fun x hx => h x (List.mem_cons_of_mem _ hx)]
    rfl
theorem dats_mem {x : Dt} : ∀ {xs : List Dt}, dats xs = true → x ∈ xs → dat x = true
  | y :: ys, hp, h => by
    unfold dats at hp
    obtain ⟨h1, h2⟩ := Bool.and_eq_true_iff.mp hp
    rcases List.mem_cons.mp h with e | h
    · rw [e]; exact h1
    · exact dats_mem h2 h
mutual
theorem can_dat : ∀ (d : Dt), dat d = true → (toP d).canLay0 = true
  | .non, _ => by unfold toP; rfl
  | .bl _, _ => by unfold toP; rfl
  | .int _, _ => by unfold toP; rfl
  | .str _, h => by unfold toP PyData.canLay0; unfold dat at h; exact h
  | .lst xs, h => by unfold toP PyData.canLay0; unfold dat at h; exact can_dats xs h
  | .tup xs, h => by unfold toP PyData.canLay0; unfold dat at h; exact can_dats xs h
  | .dct _, h => by unfold dat at h; cases h
  | .ins _ _, h => by unfold dat at h; cases h
  | .st, h => by unfold dat at h; cases h
  | .dtn _ _, h => by unfold dat at h; cases h
  | .dto _ _ _, h => by unfold dat at h; cases h
  | .ob _ _, h => by unfold dat at h; cases h
  | .ad _, h => by unfold dat at h; cases h
  | .opq, h => by unfold dat at h; cases h
theorem can_dats : ∀ (xs : List Dt), dats xs = true → PyData.canLayAll0 (toPs xs) = true
  | [], _ => by unfold toPs; rfl
  | x :: xs, h => by
    unfold toPs PyData.canLayAll0
    unfold dats at h
    obtain ⟨h1, h2⟩ := Bool.and_eq_true_iff.mp h
    rw [can_dat x h1, can_dats xs h2]
    rfl
end
mutual
theorem dep_toP : ∀ (d : Dt), (toP d).depth ≤ dep d + 1
  | .non => by unfold toP; exact Nat.le_of_ble_eq_true rfl
  | .bl _ => by unfold toP; exact Nat.le_of_ble_eq_true rfl
  | .int _ => by unfold toP; exact Nat.le_of_ble_eq_true rfl
  | .str _ => by unfold toP; exact Nat.le_of_ble_eq_true rfl
  | .lst xs => by unfold toP dep; unfold PyData.depth; have := deps_toPs xs; omega
  | .tup xs => by unfold toP dep; unfold PyData.depth; have := deps_toPs xs; omega
  | .dct _ => by unfold toP; exact Nat.le_of_ble_eq_true rfl
  | .ins _ _ => by unfold toP; exact Nat.le_of_ble_eq_true rfl
  | .st => by unfold toP; exact Nat.le_of_ble_eq_true rfl
  | .dtn _ _ => by unfold toP; exact Nat.le_of_ble_eq_true rfl
  | .dto _ _ _ => by unfold toP; exact Nat.le_of_ble_eq_true rfl
  | .ob _ _ => by unfold toP; exact Nat.le_of_ble_eq_true rfl
  | .ad _ => by unfold toP; exact Nat.le_of_ble_eq_true rfl
  | .opq => by unfold toP; exact Nat.le_of_ble_eq_true rfl
theorem deps_toPs : ∀ (xs : List Dt), PyData.depthAll (toPs xs) ≤ deps xs + 1
  | [] => by unfold toPs; exact Nat.le_of_ble_eq_true rfl
  | x :: xs => by
    unfold toPs deps
    unfold PyData.depthAll
    have h1 := dep_toP x
    have h2 := deps_toPs xs
    omega
end
theorem shp_of {d : Dt} (h : dat d = true) (hd : dep d < 60) : shp d := by
  unfold shp SeqAt.shaped
  rw [can_dat d h]
  have := dep_toP d
  rw [decide_eq_true (by omega)]
  rfl
theorem eqv_nil (ts : List Dt) : PyData.eqv (toP (.lst ts)) (toP (.lst [])) = ts.isEmpty := by
  unfold toP
  cases ts with
  | nil => unfold toPs PyData.eqv PyData.eqvAll; rfl
  | cons x xs => unfold toPs PyData.eqv PyData.eqvAll; rfl
theorem fne_nil {ts : List Dt} {k : Dt → Prop} (h : dats ts = true) (hd : deps ts < 50) (p : k (.bl (!ts.isEmpty))) : fNe (.lst ts) (.lst []) k := by
  refine ⟨shp_of (by unfold dat; exact h) (by rw [dep_lst]; omega), shp_of rfl (by decide), ?_⟩
  rw [eqv_nil]
  exact p
theorem feq_nil {ts : List Dt} {k : Dt → Prop} (h : dats ts = true) (hd : deps ts < 50) (p : k (.bl ts.isEmpty)) : fEq (.lst ts) (.lst []) k := by
  refine ⟨shp_of (by unfold dat; exact h) (by rw [dep_lst]; omega), shp_of rfl (by decide), ?_⟩
  rw [eqv_nil]
  exact p
end Wv
/-! Instances: made by their class, filled by __init__. -/
namespace Wv
open PySem PySem.Spec PyProof.Rows L2 Evl
section
variable {K : PySem.W.Frag} {g : Gx} {c : Cc} {H H1 H2 H' : Hp} {σ : L2.St} {env e1 : List Sl} {te : TE} {P : Dt → List Sl → Prop} {x C : Addr} {fs : List (Str × Dt)} {f : Str} {d : Dt} {y : V} {E : XK} {D : Ends}
def putD (f : Str) (v : Dt) : List (Str × Dt) → List (Str × Dt)
  | [] => [(f, v)]
  | (g, x) :: r => if g = f then (g, v) :: r else (g, x) :: putD f v r
theorem Tb.putF {so : Option Addr} {O : Addr → Prop} (r : Rv so O H y d) : ∀ {xs : List (Str × V)} {ds : List (Str × Dt)}, Tb so O H xs ds → Tb so O H (L2.putF f y xs) (putD f d ds)
  | [], [], _ => Tb.cons r Tb.nil
  | [], _ :: _, h => by have := h.len; simp at this
  | _ :: _, [], h => by have := h.len; simp at this
  | p :: xs, q :: ds, h => by
    obtain ⟨h1, h2, h3⟩ := h.tail
    obtain ⟨a, z⟩ := p
    obtain ⟨b, e⟩ := q
    simp only at h1
    subst h1
    unfold L2.putF putD
    split
    · exact Tb.cons r h3
    · exact Tb.cons h2 (Tb.putF r h3)
/-- an instance of C in the making at x -/
structure Ni (K : PySem.W.Frag) (c : Cc) (x C : Addr) (H : Hp) (fs : List (Str × Dt)) : Prop extends Hb K (c.add x) H where
  nb : c.B x = none
  no : ¬ c.O x
  cso : SO c
  at_ : ∃ dx xs, H x = some (.ins C dx xs) ∧ Tb c.so (c.add x).O H xs fs
/-- a promise of an __init__ -/
def spI (K : PySem.W.Frag) (lk : Bool) (C : Addr) (R : Rd3) : Sp := fun vs H Q E => ∃ (c : Cc) (x : Addr) (vs' : List V) (ds : List Dt) (P : Dt → Prop) (xe : Addr → List (Str × Dt) → Prop), vs = .ref x :: vs' ∧ Ni K c x C H [] ∧ Rvs c.so (c.add x).O H vs' ds ∧ R ds P xe ∧
  (∀ fs H', P (.ins C fs) → Hb K c H' → Rv c.so c.O H' (.ref x) (.ins C fs) → Q .non H') ∧ Lk ⟨K, E, xe, lk, []⟩ c
theorem i_len {R : Rd3} {lk : Bool} {vs : List V} {Q : VK} (n : Nat) (h : spI K lk C R vs H Q E) (hR : ∀ ds P xe, R ds P xe → ds.length = n) : vs.length = n + 1 := by
  obtain ⟨c, x, vs', ds, P, xe, rfl, _, rs, hr, _⟩ := h
  rw [List.length_cons, rs.1, hR _ _ _ hr]
theorem make_core {R : Rd3} {lk : Bool} {vs : List V} {ds : List Dt} {P : Dt → Prop} {xe : Addr → List (Str × Dt) → Prop} {Q : VK} (L : Lk ⟨g.K, E, xe, lk, []⟩ ⟨H, c.so, c.cc, Av c σ env, lk, lk⟩) (S : Sv g.K c H σ env) (hlk : lkle lk c.lk) (rs : Rvs c.so (Av c σ env) H vs ds) (r : R ds P xe)
    (q : ∀ x d H', P d → Sv g.K c H' σ env → Ko (Mv c σ env) (An c σ env) H H' → Rv c.so (Av c σ env) H' x d → Q x H') (x dx : Addr) (h1 : H x = none) (h2 : H dx = none) (h3 : dx ≠ x) :
    spI g.K lk C R (.ref x :: (vs ++ [])) (upd (upd H dx (.own x)) x (.ins C dx [])) (fun v H2 => v = .non ∧ Q (.ref x) H2) E := by
  have ex : Ex H (upd (upd H dx (.own x)) x (.ins C dx [])) := (Ex.new h2).trans (Ex.new (by rw [upd_ne (Ne.symm h3)]; exact h1))
  have nx : ¬ Av c σ env x := fun z => S.lk_av x z h1
  have sO := (Hb.av (lk := lk) S).sO
  have dm : ∀ a, (Cc.add ⟨H, c.so, c.cc, Av c σ env, lk, lk⟩ x).O a → (upd (upd H dx (.own x)) x (.ins C dx [])) a ≠ none := fun a z => by
    rcases z with z | z
    · exact ex_some ex (S.lk_av a z)
    · rw [z, upd_same]; exact fun w => nomatch w
  refine ⟨⟨H, c.so, c.cc, Av c σ env, lk, lk⟩, x, vs, ds, P, xe, by rw [List.append_nil], ⟨⟨Ko.ex ex, id, fun a z => ⟨.inl (sO a z).1, fun s w => .inl ((sO a z).2 s w)⟩, dm, S.stt.ex ex⟩, h1, nx, sO, dx, [], upd_same, Tb.nil⟩, ?_, r, fun fs H' p hb rv => ⟨rfl, ?_⟩, L⟩
  · exact ⟨rs.1, fun i v d e1 e2 => ((rs.2 i v d e1 e2).avoid fun a z => z.imp id fun z => by rw [z]; exact h1).ex ex⟩
  · obtain ⟨s1, s2⟩ := S.call hlk hb
    exact q _ _ H' p s1 s2 rv
theorem et_make {R : Rd3} {lk : Bool} {ta : TA} (hlk : lkle lk g.lk) (h : Ea g env ta fun ds e1 => R ds (fun t => P t e1) g.xe) : Et g env (tMake C (spI g.K lk C R) [] g.E ta) P := fun c L σ H S Q q =>
  h c L σ H S _ fun xs ds e1 H1 p S1 l1 k1 r1 => make_core (L.call S1 hlk) S1 (by rw [← L.1]; exact hlk) r1 p fun x d H' pd s k rv => q x d e1 H' pd s l1 (k1.trans (k.le l1)) rv
theorem et_make0 {R : Rd3} {lk : Bool} {ta : TA} {E : XK} (hlk : lkle lk g.lk) (h : Ea g env ta fun ds e1 => R ds (fun t => P t e1) fun _ _ => False) : Et g env (tMake C (spI g.K lk C R) [] E ta) P := fun c L σ H S Q q =>
  h c L σ H S _ fun xs ds e1 H1 p S1 l1 k1 r1 => make_core Lk.none S1 (by rw [← L.1]; exact hlk) r1 p fun x d H' pd s k rv => q x d e1 H' pd s l1 (k1.trans (k.le l1)) rv
/-- a call within __init__ -/
theorem Ni.call {R : Rd3} {lk lk' : Bool} {vs : List V} {ds : List Dt} {Pd : Dt → Prop} {xe : Addr → List (Str × Dt) → Prop} {Q : VK} (N : Ni K c x C H fs) (hlk : lkle lk' c.lk) (L : Lk ⟨K, E, xe, lk, []⟩ (c.add x)) (rs : Rvs c.so (c.add x).O H vs ds) (r : R ds Pd xe)
    (q : ∀ v d H', Pd d → Ni K c x C H' fs → (∀ v e, Rv c.so (c.add x).O H v e → Rv c.so (c.add x).O H' v e) → Rv c.so (c.add x).O H' v d → Q v H') : spW K lk' R (vs ++ []) H Q E := by
  have back : ∀ H', Hb K ⟨H, c.so, c.cc, (c.add x).O, lk', lk'⟩ H' → Hb K (c.add x) H' ∧ Ko (c.add x).O (c.add x).O H H' ∧ H' x = H x := fun H' hb => by
    have kk : ∀ a, (c.lb = false ∨ (c.add x).O a) → lk' = false ∨ (c.add x).O a := fun a z => by
      cases e : lk' with
      | false => exact .inl rfl
      | true => exact .inr (z.elim (fun z => by have w : c.lb = true := N.lkb (hlk e); rw [show c.lb = false from z] at w; cases w) id)
    have k0 : Ko (fun a => Chg c.so c.cc a) (fun a => lk' = false ∨ (c.add x).O a) H H' := hb.base
    refine ⟨⟨N.base.trans (k0.mono (fun a z => z) kk), N.lkb, N.sO, fun a z => k0.2 a (N.dom a z), hb.stt⟩, k0.mono (fun a z => (N.sO a z).1) fun a z => .inr z, ?_⟩
    exact k0.same (fun z => N.no (N.cso x z).1) (.inr (.inr rfl)) (N.dom x (.inr rfl))
  refine ⟨c.so, c.cc, (c.add x).O, ds, Pd, xe, ⟨Ko.refl, id, N.sO, N.dom, N.stt⟩, by rw [List.append_nil]; exact rs, r, fun v d H' p hb rv => ?_, rfl, fun C fs hx H' d xs hb h1 h2 h3 => L.2.1 C fs hx H' d xs (back H' hb).1 h1 h2 h3, .inl rfl⟩
  obtain ⟨b1, b2, b3⟩ := back H' hb
  obtain ⟨dx, xs, a1, a2⟩ := N.at_
  exact q v d H' p ⟨b1, N.nb, N.no, N.cso, dx, xs, by rw [b3]; exact a1, a2.keep b2⟩ (fun v e z => z.keep b2) rv
/-- self.f = v -/
theorem Ni.store {i : Nat} (N : Ni K c x C H fs) (hs : σ[i]? = some (some (.ref x))) (cl : Cls K C) (na : NoAttr K C f) (hl : fs.length < 1000) (r : Rv c.so (c.add x).O H y d)
    (q : ∀ H', Ni K c x C H' (putD f d fs) → (∀ v e, Rv c.so (c.add x).O H v e → Rv c.so (c.add x).O H' v e) → D.nx σ H') :
    tVar i σ H fun x H2 => ∃ a C dx fs, x = .ref a ∧ H2 a = some (.ins C dx fs) ∧ Cls K C ∧ NoAttr K C f ∧ fs.length < 1000 ∧ D.nx σ (upd H2 a (.ins C dx (putF f y fs))) := by
  obtain ⟨dx, xs, a1, a2⟩ := N.at_
  have kp : ∀ {o : HO}, Ko (c.add x).O (c.add x).O H (upd H x o) := fun {o} => Ko.mut (.inr rfl)
  refine ⟨.ref x, hs, x, C, dx, xs, rfl, a1, cl, na, by rw [a2.len]; exact hl, q _ ⟨⟨⟨fun a u n z => ?_, fun a z => upd_some (N.base.2 a z)⟩, N.lkb, N.sO, fun a z => upd_some (N.dom a z), N.stt.put (fun s z => ⟨fun w => N.no (by rw [w]; exact (N.cso s (.inl z)).1), fun w => N.no (by rw [w]; exact (N.cso s (.inl z)).2 s z)⟩) ⟨_, a1, (fun _ z => nomatch z), (fun _ z => nomatch z)⟩⟩, N.nb, N.no, N.cso, dx, _, upd_same, (a2.putF r).keep kp⟩ fun v e z => z.keep kp⟩
  have ne : a ≠ x := fun w => by rw [w] at z; have nb := N.nb; rw [show c.B x = some u from z] at nb; cases nb
  rw [upd_ne ne]
  exact N.base.1 a u n z
/-- self.f within __init__ -/
theorem Ni.get {t : Dt} (N : Ni K c x C H fs) (h : fs.lookup f = some t) : ∃ dx xs v, H x = some (.ins C dx xs) ∧ xs.lookup f = some v ∧ Rv c.so (c.add x).O H v t := by
  obtain ⟨dx, xs, a1, a2⟩ := N.at_
  obtain ⟨v, z1, z2⟩ := a2.lookup h
  exact ⟨dx, xs, v, a1, z1, z2⟩
theorem Ni.rv (N : Ni K c x C H fs) : Rv c.so c.O H (.ref x) (.ins C fs) := by
  obtain ⟨dx, xs, a1, a2⟩ := N.at_
  exact .ins (dx := dx) N.no a1 a2.1 fun i k v k' d e1 e2 => (a2.2 i k v k' d e1 e2).mono fun a z => .inl z
/-- what is left of __init__, self being a tree from then on -/
theorem Ni.rest {t : TS} {lk : Bool} {xe : Addr → List (Str × Dt) → Prop} {Pd : Dt → Prop} {Q : VK} (N : Ni K c x C H fs) (L : Lk ⟨K, E, xe, lk, []⟩ c) (hs : σ[0]? = some (some (.ref x))) (n : Nat) (hn : σ.length = n + 1)
    (hq : ∀ H', Pd (.ins C fs) → Hb K c H' → Rv c.so c.O H' (.ref x) (.ins C fs) → Q .non H')
    (h : Wd ⟨K, E, xe, lk, []⟩ (.v (.ins C fs) :: List.replicate n .no) t { nx := fun _ => Pd (.ins C fs), rt := fun d => d = .non ∧ Pd (.ins C fs) }) : t { nx := fun _ H' => Q .non H', rt := Q } σ H := by
  have own : ∀ (i : Nat) (d : Dt), (Sl.v (.ins C fs) :: List.replicate n Sl.no)[i]? ≠ some (Sl.own d) := fun i d z => by
    cases i with
    | zero => cases z
    | succ i =>
      rw [List.getElem?_cons_succ, List.getElem?_replicate] at z
      split at z <;> cases z
  have nfz : ∀ (i : Nat) (d : Reg), (Sl.v (.ins C fs) :: List.replicate n Sl.no)[i]? ≠ some (Sl.fz d) := fun i d z => by
    cases i with
    | zero => cases z
    | succ i =>
      rw [List.getElem?_cons_succ, List.getElem?_replicate] at z
      split at z <;> cases z
  have av : ∀ a, Av c σ (.v (.ins C fs) :: List.replicate n .no) a → c.O a := fun a z => z.elim id fun ⟨i, d, z, _⟩ => absurd z (own i d)
  have hb : Hb K c H := Hb.less (g := ⟨K, E, xe, lk, []⟩) N.toHb N.cso
  refine h c L σ H ⟨hb, by rw [hn]; simp, fun i j d e a z => absurd z (own i d), fun i d b z => absurd z (own i d), fun i d z => absurd z (nfz i d), fun i d z => ?_, fun i d z => absurd z (own i d)⟩ _ (fun σ' H' e' S' f p => hq H' p S'.toHb (N.rv.keep (f.1.mono (fun a z => av a (Mv.av N.cso a z)) fun a z => .inr (.inl z)))) (fun _ _ _ _ _ z => z.elim) (fun _ _ _ _ _ z => z.elim) (fun x d H' p hb' k rv => ?_) fun _ _ _ _ _ z => z.elim
  · cases i with
    | zero => cases z; exact ⟨_, hs, N.rv.mono av⟩
    | succ i =>
      rw [List.getElem?_cons_succ, List.getElem?_replicate] at z
      split at z <;> cases z
  · obtain ⟨rfl, p⟩ := p
    cases rv
    exact hq H' p hb' (N.rv.keep (k.mono (fun a z => av a (Mv.av N.cso a z)) fun a z => .inr (.inl z)))
end
end Wv
/-! Slices of lists with a step; ranges with a step. -/
namespace L2
open PySem PySem.Spec PyProof.Rows
section
variable {X : Cx} {e : Expr} {te : TE} {lo hi : Option Expr} {se : Expr} {tl th ts : TO} {pos p2 : Pos}
end
end L2
namespace Wv
open PySem PySem.Spec PyProof.Rows L2 Evl
section
variable {g : Gx} {c : Cc} {H H1 H2 H' : Hp} {σ : L2.St} {env e1 : List Sl} {ta tb te : TE} {P : Dt → List Sl → Prop} {so : Option Addr} {O : Addr → Prop}
end
end Wv
/-! Written dicts of texts and numbers. -/
namespace Wv
open PySem PySem.Spec PyProof.Rows L2 Evl
section
variable {g : Gx} {c : Cc} {H : Hp} {σ : L2.St} {env : List Sl} {P : Dt → List Sl → Prop} {so : Option Addr} {O : Addr → Prop}
def cTrs (kvs : List (Str × Int)) : List (TE × TE) := kvs.map fun kv => (tC (.str kv.1), tC (.int kv.2))
theorem tp_c : ∀ (kvs : List (Str × Int)) {H : Hp} {Q : List (V × V) → Hp → Prop}, Q (kvs.map fun kv => (.str kv.1, .int kv.2)) H → tPairs (cTrs kvs) σ H Q
  | [], _, _, q => q
  | kv :: r, H, Q, q => tp_c r (Q := fun ps H3 => Q ((.str kv.1, .int kv.2) :: ps) H3) q
def dispD (kvs : List (Str × Int)) : List (Key × Dt) := kvs.foldl (fun a kv => dpt a (.inr kv.1) (.int kv.2)) []
theorem tb_disp : ∀ (kvs : List (Str × Int)) (xs : List (Key × V)) (ds : List (Key × Dt)), Tb so O H xs ds → Tb so O H (L2.mergeK xs (kvs.map fun kv => ((.inr kv.1 : Key), V.int kv.2))) (kvs.foldl (fun a kv => dpt a (.inr kv.1) (.int kv.2)) ds)
  | [], _, _, h => h
  | kv :: r, xs, ds, h => tb_disp r _ _ (h.put (.int kv.2))
theorem disp_len : ∀ (kvs : List (Str × Int)) (ds : List (Key × Dt)), (kvs.foldl (fun a kv => dpt a (.inr kv.1) (.int kv.2)) ds).length ≤ ds.length + kvs.length
  | [], ds => Nat.le_refl _
  | kv :: r, ds => by
    have h1 := disp_len r (dpt ds (.inr kv.1) (.int kv.2))
    have h2 := dpt_len ds (.inr kv.1) (.int kv.2)
    rw [List.foldl_cons, List.length_cons]
    omega
theorem ef_disp (kvs : List (Str × Int)) {trs : List (TE × TE)} (ht : trs = cTrs kvs) (hl : kvs.length ≤ 15) (p : P (.dct (dispD kvs)) env) : Ef g env (tDisp trs) P := fun c L σ H S Q q a ha => by
  subst ht
  refine tp_c kvs ⟨upd_same, kvs.map fun kv => ((.inr kv.1 : Key), V.int kv.2), by rw [List.map_map]; rfl, by rw [List.length_map]; exact hl, ?_⟩
  have S1 : Sv g.K (c.add a) (upd H a (.dK [])) σ env := S.add ha
  have ne : ∀ s, c.so = some s → a ≠ s ∧ a ≠ c.cc.cc := fun s z => ⟨fun w => S.dom s (S.sO s (.inl z)).1 (by rw [← w]; exact ha), fun w => S.dom c.cc.cc ((S.sO s (.inl z)).2 s z) (by rw [← w]; exact ha)⟩
  have S2 := S1.wrO (o := .dK (L2.mergeK [] (kvs.map fun kv => ((.inr kv.1 : Key), V.int kv.2)))) (.inr rfl) ne (base_none S ha) ⟨_, upd_same, (fun _ z => nomatch z), (fun _ z => nomatch z)⟩
  have tb : Tb c.so (Av (c.add a) σ env) (upd (upd H a (.dK [])) a (.dK (L2.mergeK [] (kvs.map fun kv => ((.inr kv.1 : Key), V.int kv.2))))) _ (dispD kvs) := tb_disp kvs [] [] Tb.nil
  refine q a (.dct (dispD kvs)) env _ p S2 Le.refl ?_ ha ⟨_, upd_same, tb.1, ?_, tb.2⟩
  · have e : ∀ x y, upd (upd H a x) a y = upd H a y := fun x y => funext fun b => by
      by_cases hb : b = a
      · rw [hb, upd_same, upd_same]
      · rw [upd_ne hb, upd_ne hb, upd_ne hb]
    rw [e]
    exact Ko.new ha
  · have := disp_len kvs []
    have h2 : (dispD kvs).length ≤ 15 := Nat.le_trans this (by simpa using hl)
    simp only [Zz]
    omega
end
end Wv
/-! Three targets at once. -/
namespace Wv
open PySem PySem.Spec PyProof.Rows L2 Evl
section
variable {g : Gx} {c : Cc} {H : Hp} {σ : L2.St} {env : List Sl} {te1 te2 te3 : TE} {E : De}
theorem wd_par3 {i j l : Nat} (hij : i ≠ j) (hil : i ≠ l) (h : Et g env te1 fun d1 e => Ef g e te2 fun d2 e2 => Ef g e2 te3 fun d3 e3 => E.nx (((e3.set j (.own d2)).set l (.own d3)).set i (.v d1))) : Wd g env (tPar3 i j l (tCons te1 (tCons te2 (tCons te3 tNil)))) E := fun c L σ H S D n b k r re =>
  h c L σ H S _ fun x d e1 H1 p1 S1 l1 k1 r1 => (pr_OO (i := j) (j := l) (E := { nx := fun e => E.nx (e.set i (.v d)), rt := fun _ => False }) p1) c L σ H1 S1 _ fun v w H' e' S' f p => by
    refine ⟨x, v, w, rfl, ?_⟩
    have rx : Rv c.so (Av c ((σ.set j (some v)).set l (some w)) e') H' x d := r1.later (f.1.mono (Mv.av S1.sO) fun _ z => z) fun a z => z.elim (fun z => .inl (.inl z)) fun z => (f.2 a z).imp .inr id
    have es : ((σ.set i (some x)).set j (some v)).set l (some w) = ((σ.set j (some v)).set l (some w)).set i (some x) := by
      rw [List.set_comm _ _ hij, List.set_comm _ _ hil]
    rw [es]
    exact n _ H' _ (S'.set_v rx) (((fw_e l1 k1).trans f).trans ⟨Ko.refl, fun a z => .inl (ow_set_v z)⟩) p
end
end Wv
/-! zip of two lists. -/
namespace L2
open PySem PySem.Spec PyProof.Rows
theorem pi_zipK {X : Cx} {K : PySem.W.Frag} {e e2 : Expr} {ta : TA} {p pos tpos : Pos} {elts : List Expr} {kk : Nat} (hg : Gl X "zip") (hm : X.mg "zip" = none) (ha : PA X [e, e2] ta) (hK : X.K = K := by rfl)
    (hs : starEach [e, e2] X.env = (false, eval e X.env) :: starEach [e2] X.env := by rfl) (hpl : (backTo pos (starEach [e2] X.env)).any (·.1) = false := by rfl) : PI X (.Tuple elts kk tpos) (.Call (.Name "zip" p) [e, e2] [] pos) (RZ.iZipA K ta) := by
  subst hK
  exact RZ.pi_zipA hg hm ha hs hpl
end L2
namespace Wv
open PySem PySem.Spec PyProof.Rows L2 Evl
section
variable {g : Gx} {c : Cc} {H H1 : Hp} {σ : L2.St} {env : List Sl} {PL : List Dt → List Sl → Prop} {so : Option Addr} {A : Addr → Prop} {K : PySem.W.Frag}
def zipD (ds es : List Dt) : List Dt := List.zipWith (fun x y => .tup [x, y]) ds es
theorem wk_zip {a b : Addr} {ds es : List Dt} (r1 : Rv so A H1 (.ref a) (.lst ds)) (r2 : Rv so A H1 (.ref b) (.lst es)) : Wk so A (L2.Itz K a b) (zipD ds es) H1 := by
  obtain ⟨a', xs, e1, ho1, h1, rs1, hz1⟩ := lst_rv r1
  cases e1
  obtain ⟨b', ys, e2, ho2, h2, rs2, hz2⟩ := lst_rv r2
  cases e2
  have sq1 : ∀ H', Ko A A H1 H' → SqL K H' a xs := fun H' k => .inl (.inl (k.keep1 ho1 h1 fun _ z => nomatch z))
  have sq2 : ∀ H', Ko A A H1 H' → SqL K H' b ys := fun H' k => .inl (.inl (k.keep1 ho2 h2 fun _ z => nomatch z))
  have hl : (zipD ds es).length = min ds.length es.length := by unfold zipD; rw [List.length_zipWith]
  have l1 := rs1.1
  have l2 := rs2.1
  refine ⟨by omega, fun i H' hi k => ⟨xs, ys, xs[i]'(by omega), ys[i]'(by omega), sq1 H' k, sq2 H' k, by simp, by simp⟩, fun H' k => ⟨xs, ys, sq1 H' k, sq2 H' k, by omega⟩, fun O' i H' x H'' hi k n1 n2 ⟨T, u, v, ex, hT, e, y1, y2⟩ => ?_⟩
  subst ex e
  have hi1 : i < ds.length := by omega
  have hi2 : i < es.length := by omega
  have hu := y1 xs (sq1 H' k)
  have hv := y2 ys (sq2 H' k)
  refine ⟨Ex.new hT, .tup [ds[i], es[i]], by unfold zipD; rw [List.getElem?_zipWith]; simp [hi1, hi2], ?_⟩
  have ru : Rv so O' H' u ds[i] := (rs1.2 i u ds[i] hu (by simp [hi1])).later k n1
  have rv : Rv so O' H' v es[i] := (rs2.2 i v es[i] hv (by simp [hi2])).later k n1
  exact new_tup n2 hT (Rvs.cons ru (Rvs.cons rv Rvs.nil)) (Nat.le_of_ble_eq_true rfl)
theorem ei_zip {ta : TA} (h : Ea g env ta fun ds e => ∃ xs ys, ds = [.lst xs, .lst ys] ∧ PL (zipD xs ys) e) : Ei g env (RZ.iZipA g.K ta) PL := fun c L σ H S R q =>
  h c L σ H S _ fun vs ds e H1 ⟨xs, ys, e0, p⟩ S1 l k r => by
    subst e0
    obtain ⟨x, y, rfl, r1, r2⟩ := two_rv r
    obtain ⟨a, us, rfl, _, h1, _⟩ := lst_rv r1
    obtain ⟨b, ws, rfl, _, h2, _⟩ := lst_rv r2
    exact ⟨a, b, us, ws, rfl, .inl ⟨.inl (.inl h1), .inl (.inl h2), q _ _ e H1 p S1 l k (wk_zip r1 r2)⟩⟩
end
end Wv
/-! small further rules -/
namespace Wv
open PySem L2 Evl
section
variable {k : Dt → Prop} {kl : List Dt → Prop} {ds es : List Dt} {kvs : List (Key × Dt)} {i j : Int} {z : Str}
theorem passF {P : Program} {w : World} {X : Cx} : Passes (L2.CX P w) X E0 := fun _ _ _ _ _ _ _ h => by
  obtain ⟨_, _, _, _, _, _, _, _, _, _, _, _, h⟩ := h
  exact h.elim
theorem eI {n : Int} {A : Int → Prop} (p : A n) : ∃ i, Dt.int n = Dt.int i ∧ A i := ⟨n, rfl, p⟩
theorem addI (p : k (.int (i + j))) : fAdd (.int i) (.int j) k := p
theorem jI {w : Int → Int → Dt} (p : k (w i j)) : fJ w (.int i) (.int j) k := p
theorem lenLst (p : k (.int ds.length)) : fLen [.lst ds] k := p
theorem lenTup (p : k (.int ds.length)) : fLen [.tup ds] k := p
theorem lenDct (p : k (.int kvs.length)) : fLen [.dct kvs] k := p
theorem lenStr (p : k (.int z.length)) : fLen [.str z] k := p
theorem slL {lo hi : Option Int} (p : k (.lst (ctD ds lo hi))) : fSl lo hi (.lst ds) k := p
theorem slT {lo hi : Option Int} (p : k (.tup (ctD ds lo hi))) : fSl lo hi (.tup ds) k := p
theorem slS {lo hi : Option Int} (p : k (.str (cutS z lo hi))) : fSl lo hi (.str z) k := p
theorem intI (p : k (.int i)) : fInt [.int i] k := p
theorem intB {b : Bool} (p : k (.int (if b then 1 else 0))) : fInt [.bl b] k := p
theorem itsL (p : kl ds) : itS (.lst ds) kl := p
theorem itsT (p : kl ds) : itS (.tup ds) kl := p
theorem itdL (p : kl ds) : itD (.lst ds) kl := p
theorem itdT (p : kl ds) : itD (.tup ds) kl := p
theorem kdI {kk : Key → Prop} (p : kk (.inl i)) : kD (.int i) kk := p
theorem kdS {kk : Key → Prop} (p : kk (.inr z)) : kD (.str z) kk := p
theorem exOwn {e : List Sl} {n : Nat} {d0 : Dt} {A : Dt → Prop} (h : e[n]? = some (Sl.own d0)) (p : A d0) : ∃ d, e[n]? = some (Sl.own d) ∧ A d := ⟨d0, h, p⟩
theorem exOwnD {e : List Sl} {n : Nat} {d0 : List (Key × Dt)} {A : List (Key × Dt) → Prop} (h : e[n]? = some (Sl.own (.dct d0))) (p : A d0) : ∃ d, e[n]? = some (Sl.own (.dct d)) ∧ A d := ⟨d0, h, p⟩
theorem exOwnL {e : List Sl} {n : Nat} {d0 : List Dt} {A : List Dt → Prop} (h : e[n]? = some (Sl.own (.lst d0))) (p : A d0) : ∃ d, e[n]? = some (Sl.own (.lst d)) ∧ A d := ⟨d0, h, p⟩
end
end Wv
/-! == and != of instances by the class's own __eq__ (its __ne__ is that of object). -/
namespace PySem.W
open PySem PySem.Calls PyProof.Rows Builtin
section
variable {prog : Program} {w : World} {A : Around} {E : Value → Shared → Prop} {s : Shared} {K : Frag} {x C f : Addr} {ox : Obj} {od : Option Obj} {b : Value}
theorem objNe_K (hu : A.units < cLine) (X : K.In s.heap) (I : InstAt s.heap x ox C od) (hs : findIn K (.ref C) "__eq__" = some (some (.ref f))) (hf : isFn K (.ref f) = true) {Q : Fin → Shared → Prop}
    (h : wpAny (model prog w) A (call (.ref f) [.ref x, b]) (fun v s' => ∃ r, v = .bool r ∧ Q (.done (.ret (.bool (!r)))) s') E s) : wpAny (model prog w) A (Builtin.«object.__ne__» ⟨[.ref x, b], []⟩) Q E s := by
  unfold Builtin.«object.__ne__»
  repeat (first
    | with_reducible refine wpAny_cRoomFor hu ?_
    | (refine wpAny_bind (m := callSpecialIfBound? (.ref x) (Str.ofString "__eq__") [b])
        (ifBound_K X I hs hf (wpAny_mono h (fun v s' hr => by
          obtain ⟨b, rfl, hq⟩ := hr
          repeat (first | exact hq | exact wpAny_pure hq | exact wpAny_truthy_bool hq | (refine wpAny_bind (m := truthy (.bool _)) (wpAny_truthy_bool ?_)) | wp_step)) fun _ _ e => e)))
    | wp_step)
theorem tryNe_K (hu : A.units + 1 < cLine) (X : K.In s.heap) (I : InstAt s.heap x ox C od) (hn : findIn K (.ref C) "__ne__" = some (some (.builtin "object.__ne__"))) (hm : mroIn K C (.type "object") = some true)
    (hs : findIn K (.ref C) "__eq__" = some (some (.ref f))) (hf : isFn K (.ref f) = true) {Q : Option Value → Shared → Prop}
    (h : wpAny (model prog w) A.in1 (call (.ref f) [.ref x, b]) (fun v s' => ∃ r, v = .bool r ∧ Q (some (.bool (!r))) s') E s) : wpAny (model prog w) A (tryCompare (.ref x) "__ne__" b) Q E s := by
  have FB := F.cmp_object
  have L0 := I.type (M := model prog w)
  have L1 := looks_mroIn (M := model prog w) X hm
  have sub : Looks (model prog w) s.heap (isInstance (.ref x) (.type "object")) true := fun A' Q' E' s' k q => by
    unfold isInstance
    exact wpAny_bind (L0 _ _ _ _ k (L1 _ _ _ _ k q))
  simp only [tryCompare]
  refine wpAny_bind ?_
  simp only [callSpecialIfBound?, bindSpecialIfBound?]
  refine wpAny_holding (wpAny_bind (wpAny_bind (wpAny_bind (I.type.here ((looks_findIn X hn).here ?_)))))
  simp only [FB.ne.bind]
  refine wpAny_bind (wpAny_askSetting (wpAny_ite ?_))
  have call1 : wpAny (model prog w) A (call (.builtin "object.__ne__") ([.ref x] ++ [b])) (fun v s' => ∃ r, v = .bool r ∧ Q (some (.bool r)) s') E s := by
    refine wpAny_call (codeAny_call_builtin FB.ne.plain F.cmpEntry_ne ?_)
    refine check_slot F.cmpKind_ne F.cmpSplit_ne sub (F.cmpArgs_ne _ _) ?_
    refine objNe_K (A := A.in1) hu X I hs hf (wpAny_mono h (fun v s' hv => ?_) fun _ _ e => e)
    obtain ⟨r, rfl, hq⟩ := hv
    exact ⟨r, rfl, !r, rfl, hq⟩
  split
  · refine wpAny_bind (wpAny_pure (wpAny_pure ?_))
    refine wpAny_bind (m := call (.builtin "object.__ne__") ([.ref x] ++ [b])) (wpAny_mono call1 (fun v s' hv => ?_) fun _ _ e => e)
    obtain ⟨r, rfl, hq⟩ := hv
    exact wpAny_pure (wpAny_pure hq)
  · refine wpAny_tryCatch (wpAny_bind (wpAny_pure (wpAny_pure ?_)))
    refine wpAny_bind (m := call (.builtin "object.__ne__") ([.ref x] ++ [b])) (wpAny_mono call1 (fun v s' hv => ?_) fun _ _ e => e)
    obtain ⟨r, rfl, hq⟩ := hv
    exact wpAny_pure (wpAny_pure hq)
theorem ne_K {Q : Value → Shared → Prop} (hu : A.units + 1 < cLine) (X : K.In s.heap) (I : InstAt s.heap x ox C od) (hb : Looks (model prog w) s.heap (typeOf b) (.ref C)) (hn : findIn K (.ref C) "__ne__" = some (some (.builtin "object.__ne__"))) (hm : mroIn K C (.type "object") = some true)
    (hs : findIn K (.ref C) "__eq__" = some (some (.ref f))) (hf : isFn K (.ref f) = true)
    (h : wpAny (model prog w) A.in1 (call (.ref f) [.ref x, b]) (fun v s' => ∃ r, v = .bool r ∧ Q (.bool (!r)) s') E s) : wpAny (model prog w) A (richCompare .NotEq (.ref x) b) Q E s := by
  unfold richCompare
  simp only [oneThing_ref]
  refine wpAny_holding (wpAny_bind (wpAny_cRoomFor (Nat.lt_of_succ_lt hu) ?_))
  rw [cmpInfo_NotEq]
  dsimp only
  refine wpAny_bind (I.type.here (wpAny_bind (hb.here ?_)))
  rw [show (Value.ref C != Value.ref C) = false from by simp]
  simp only [Bool.false_eq_true, if_false]
  refine wpAny_bind (wpAny_pure ?_)
  simp only [Bool.false_eq_true, if_false]
  refine wpAny_bind (tryNe_K hu X I hn hm hs hf (wpAny_mono h (fun v s' hv => ?_) fun _ _ e => e))
  obtain ⟨r, rfl, hq⟩ := hv
  first | exact ⟨r, rfl, wpAny_pure hq⟩ | exact ⟨r, rfl, wpAny_pure (wpAny_pure hq)⟩
end
end PySem.W

namespace Wv
open PySem PySem.Spec PyProof.Rows L2 Evl
/-- what the class at C must have: its own __eq__ at f, the __ne__ of object -/
structure OwnCmp (K : PySem.W.Frag) (C f : Addr) : Prop where
  eq : PySem.W.findIn K (.ref C) "__eq__" = some (some (.ref f))
  ne : PySem.W.findIn K (.ref C) "__ne__" = some (some (.builtin "object.__ne__"))
  fn : PySem.W.isFn K (.ref f) = true
  ob : PySem.W.mroIn K C (.type "object") = some true
def rOwn (neg : Bool) (C : Addr) (sp : Sp) : R2 := fun x y H Q => ∃ a b dx dy fs gs, x = .ref a ∧ y = .ref b ∧ H a = some (.ins C dx fs) ∧ H b = some (.ins C dy gs) ∧ sp [.ref a, .ref b] H (fun v H' => ∃ r, v = .bl r ∧ Q (.bl (if neg then !r else r)) H') E0
section
variable {X : Cx} {C f : Addr} {fd : FuncData} {ps : List Str} {sp : Sp} {n : Nat} {CX : CXT}
theorem own_run (F : FnOk X.prog X.w X.K X.mg X.base CX n f fd ps sp) (hb : Binds X.K fd ps []) (hx : Passes CX X E0) {A : Around} (hr : Room n A) (hA : A.frames = X.A.frames) {pins : List (Addr × Obj)} {σ : L2.St} {H : Hp} {s : Shared} (I : Inv X pins σ H s) {a b : Addr} {Q : VK} (h : sp [.ref a, .ref b] H Q E0) :
    wpAny (model X.prog X.w) A (call (.ref f) [.ref a, .ref b]) (EP X pins σ Q) X.xe s := by
  have e0 : Env0 X.prog X.w X.K X.mg X.base A X.stack s H := by
    have e := I.env0
    exact ⟨by rw [hA]; exact e.frames, e.mod, e.bs, e.bsz, e.funs, e.frf, e.hok, e.bare⟩
  have hl := F.len _ _ _ _ h
  have r2 : Vals [V.ref a, V.ref b] [Value.ref a, Value.ref b] := .cons rfl (.cons rfl .nil)
  refine wpAny_call (codeAny_mono (F.run A X.stack s H ⟨[.ref a, .ref b], []⟩ [.ref a, .ref b] [.ref a, .ref b] _ E0 hr e0 (by
    have := hb s [.ref a, .ref b] I.kIn (by simpa using hl)
    simpa using this) r2 h) fun r s' hq => ?_)
  cases r with
  | error e => exact hx pins σ H s e s' I hq
  | ok fl =>
    cases fl with
    | ret w => exact I.after hq
    | next => exact False.elim hq
    | brk => exact False.elim hq
    | cont => exact False.elim hq
theorem op_ownN (O : OwnCmp X.K C f) (F : FnOk X.prog X.w X.K X.mg X.base CX n f fd ps sp) (hb : Binds X.K fd ps []) (hx : Passes CX X E0) (hr : Room (n + 1) X.A) : OpR X (compareOp .NotEq) (rOwn true C sp) := by
  intro pins s σ H x y v u Q I rx ry h
  obtain ⟨a, b, dx, dy, fs, gs, rfl, rfl, ha, hb', hsp⟩ := h
  cases rx
  cases ry
  obtain ⟨mA, J, _⟩ := ins_get I.hok ha
  obtain ⟨mB, J', _⟩ := ins_get I.hok hb'
  obtain ⟨od, J, _⟩ := J.look
  obtain ⟨od', J', _⟩ := J'.look
  show wpAny (model X.prog X.w) X.A (richCompare .NotEq (.ref a) (.ref b)) (EP X pins σ Q) X.xe s
  refine PySem.W.ne_K (by have := hr.un; omega) I.kIn J J'.type O.ne O.ob O.eq O.fn ?_
  refine wpAny_mono (own_run F hb hx hr.in1 rfl I hsp) (fun v s' hv => ?_) fun _ _ e => e
  obtain ⟨z, H', I', rz, r, rfl, q⟩ := hv
  cases rz
  exact ⟨r, rfl, .bl (!r), H', I', rfl, q⟩
end
section
variable {g : Gx} {env : List Sl} {ta tb : TE} {P : Dt → List Sl → Prop}
theorem et_own2 {R : Rd3} {lk neg : Bool} {C : Addr} (hlk : lkle lk g.lk) (h : Et g env ta fun d e1 => Et g e1 tb fun e e2 => ∃ fs gs, d = .ins C fs ∧ e = .ins C gs ∧ R [d, e] (fun t => ∃ r, t = .bl r ∧ P (.bl (if neg then !r else r)) e2) fun _ _ => False) : Et g env (tOp (rOwn neg C (spW g.K lk R)) ta tb) P := fun c L σ H S Q q =>
  h c L σ H S _ fun x d env1 H1 p1 S1 l1 k1 r1 => p1 c L σ H1 S1 _ fun y e env2 H2 ⟨fs, gs, e1, e2, p2⟩ S2 l2 k2 r2 => by
    have r1' := (S1.kp r1 k2).mono (Av.le l2)
    subst e1 e2
    have rs := Rvs.cons r1' (Rvs.cons r2 Rvs.nil)
    cases r1' with
    | ins ho h0 hk he =>
      cases r2 with
      | ins ho' h0' hk' he' =>
        refine ⟨_, _, _, _, _, _, rfl, rfl, h0, h0', c.so, c.cc, Av c σ env2, _, _, _, Hb.av S2, rs, p2, fun x d H' ⟨r, ed, pd⟩ hb rr => ?_, Lk.none⟩
        subst ed
        cases rr with
        | bl _ => exact ⟨r, rfl, q _ _ env2 H' pd (S2.call (by rw [← L.1]; exact hlk) hb).1 (l1.trans l2) ((k1.trans (k2.le l1)).trans ((S2.call (by rw [← L.1]; exact hlk) hb).2.le (l1.trans l2))) (.bl _)⟩
end
end Wv
/-! isinstance with own classes, of own instances -/
namespace Wv
open PySem PySem.Spec PyProof.Rows L2 Evl
def bTys : List String := ["NoneType", "bool", "int", "str", "list", "tuple", "dict"]
/-- the class at C, an own one: what isinstance asks -/
structure OwnI (K : PySem.W.Frag) (C : Addr) : Prop where
  ci : ((PySem.W.clsIn K C).isSome && PySem.W.typeIn K (.ref C) == some (.type "type")) = true
  un : (bTys.all fun n => decide (PySem.W.mroIn K C (.type n) = some false)) = true
  ha : PySem.W.findIn K (.ref C) "__class__" = some (some (.builtin "object.__class__"))
  hn : PySem.W.specialIn K (.builtin "object.__class__") "__get__" = some (some (.builtin "getset_descriptor.__get__"))
  htk : PySem.W.takesIn K (.builtin "object.__class__") = some true
  hm : PySem.W.mroIn K C (.type "object") = some true
section
variable {K : PySem.W.Frag}
theorem no_ref (C : Addr) : ∀ l : List String, (l.map Value.type).contains (Value.ref C) = false
  | [] => rfl
  | a :: l => by
    rw [List.map_cons, List.contains_cons, no_ref C l]
    rfl
theorem bty_no (C : Addr) : ∀ n ∈ bTys, PySem.W.subIn K (.type n) (.ref C) = some false := by
  have : ∀ n ∈ bTys, ∃ l : List String, fastBuiltinMro n = some (l.map Value.type) := by
    intro n hn
    simp only [bTys, List.mem_cons, List.not_mem_nil, or_false] at hn
    rcases hn with rfl | rfl | rfl | rfl | rfl | rfl | rfl
    · exact ⟨["NoneType", "object"], by kernel_rfl⟩
    · exact ⟨["bool", "int", "object"], by kernel_rfl⟩
    · exact ⟨["int", "object"], by kernel_rfl⟩
    · exact ⟨["str", "object"], by kernel_rfl⟩
    · exact ⟨["list", "object"], by kernel_rfl⟩
    · exact ⟨["tuple", "object"], by kernel_rfl⟩
    · exact ⟨["dict", "object"], by kernel_rfl⟩
  intro n hn
  obtain ⟨l, e⟩ := this n hn
  show (fastBuiltinMro n).map (·.contains (.ref C)) = some false
  rw [e]
  exact congrArg some (no_ref C l)
theorem kit_no {C : Addr} (O : OwnI K C) {n : String} (hn : n ∈ bTys) : PySem.W.kitOne K (.type n) (.ref C) = some false := by
  unfold PySem.W.kitOne
  rw [if_neg (show ¬ (Value.type n == Value.ref C) = true from fun z => by cases (show (Value.type n == Value.ref C) = false from rfl).symm.trans z)]
  unfold PySem.W.kitCls
  dsimp only
  rw [if_pos O.ci]
  exact bty_no C n hn
theorem kit_yes (C : Addr) : PySem.W.kitOne K (.ref C) (.ref C) = some true := by
  unfold PySem.W.kitOne
  rw [if_pos (by simp)]
theorem ty_ins {so : Option Addr} {O : Addr → Prop} {H : Hp} {x : V} {C : Addr} {fs : List (Str × Dt)} (cl : Cls K C) (I : OwnI K C) (r : Rv so O H x (.ins C fs)) : TyX K H x (.ref C) := by
  cases r with
  | ins ho h => exact .base (.ins h cl I.ha I.hn I.htk I.hm)
/-- an instance of the class at C -/
def isO : Dt → Bool
  | .ins _ _ => true
  | _ => false
/-- what may be asked for the class at C: data, and its own instances -/
def okO (C : Addr) (d : Dt) : Prop := (tyD d).isSome = true ∨ ∃ fs, d = .ins C fs
theorem ty_mem {d : Dt} {t : String} (h : tyD d = some t) : t ∈ bTys := by
  cases d <;> first | (cases h; decide) | cases h
end
section
variable {g : Gx} {env : List Sl} {te : TE} {P : Dt → List Sl → Prop}
theorem et_isOwn {C : Addr} (cl : Cls g.K C) (I : OwnI g.K C) (h : Et g env te fun d e => okO C d ∧ P (.bl (isO d)) e) : Et g env (tCB (rIsU g.K) (tCons te (tCons (tC (.ref C)) tNil))) P := fun c L σ H S Q q =>
  h c L σ H S _ fun x d e H1 ⟨ht, p⟩ S1 l k r => by
    rcases ht with ht | ⟨fs, rfl⟩
    · obtain ⟨t, ht⟩ := Option.isSome_iff_exists.mp ht
      have ef : isO d = false := by cases d <;> first | rfl | cases ht
      rw [ef] at p
      exact .inl ⟨x, .ref C, .type t, .ref C, false, rfl, .own C, .base (ty_rv r ht), kit_no I (ty_mem ht), q _ _ e H1 p S1 l k (.bl _)⟩
    · exact .inl ⟨x, .ref C, .ref C, .ref C, true, rfl, .own C, .base (ty_ins cl I r), kit_yes C, q _ _ e H1 p S1 l k (.bl _)⟩
end
end Wv
/-! further facts of the head: own classes, errors told apart, the law's table of code objects -/
namespace Lw
open PySem PySem.Spec PyProof.Rows L2
def ownIB (K : PySem.W.Frag) (C : Addr) : Bool := ((PySem.W.clsIn K C).isSome && PySem.W.typeIn K (.ref C) == some (.type "type")) && ((Wv.bTys.all fun n => decide (PySem.W.mroIn K C (.type n) = some false)) &&
  (He.eqO (PySem.W.findIn K (.ref C) "__class__") (some (some (.builtin "object.__class__"))) && (He.eqO (PySem.W.specialIn K (.builtin "object.__class__") "__get__") (some (some (.builtin "getset_descriptor.__get__"))) && (decide (PySem.W.takesIn K (.builtin "object.__class__") = some true) && decide (PySem.W.mroIn K C (.type "object") = some true)))))
theorem ownIB_ok {K : PySem.W.Frag} {C : Addr} (h : ownIB K C = true) : Wv.OwnI K C := by
  obtain ⟨h1, h⟩ := He.ba h
  obtain ⟨h2, h⟩ := He.ba h
  obtain ⟨h3, h⟩ := He.ba h
  obtain ⟨h4, h⟩ := He.ba h
  obtain ⟨h5, h6⟩ := He.ba h
  exact ⟨h1, h2, He.eqO_ok h3, He.eqO_ok h4, of_decide_eq_true h5, of_decide_eq_true h6⟩
def ownCB (K : PySem.W.Frag) (C f : Addr) : Bool := He.eqO (PySem.W.findIn K (.ref C) "__eq__") (some (some (.ref f))) && (He.eqO (PySem.W.findIn K (.ref C) "__ne__") (some (some (.builtin "object.__ne__"))) && (PySem.W.isFn K (.ref f) && decide (PySem.W.mroIn K C (.type "object") = some true)))
theorem ownCB_ok {K : PySem.W.Frag} {C f : Addr} (h : ownCB K C f = true) : Wv.OwnCmp K C f := by
  obtain ⟨h1, h⟩ := He.ba h
  obtain ⟨h2, h⟩ := He.ba h
  obtain ⟨h3, h4⟩ := He.ba h
  exact ⟨He.eqO_ok h1, He.eqO_ok h2, h3, of_decide_eq_true h4⟩
structure SaysY (fa : List He.Fa) (fn : List He.DefD) (xb : PySem.W.Frag → Bool) (xs : List Str) (vs : List ExV) (tf : List He.Defn) (h : Heap) (K : PySem.W.Frag) : Prop where
  x : obsX fa fn xb xs K = valX fn vs
  hd : ∀ p ∈ tf, PySem.W.codeHdIn K (He.cT K p).1 (He.cT K p).2 = true
  out : ∀ p ∈ tf, K.lookup (He.cT K p).2 = none
  empty : ∀ p ∈ tf, h.get? (He.cT K p).2 = some { cls := .none, data := .fields #[] }
end Lw
namespace Lw
open PySem PySem.Spec PyProof.Rows L2 Evl Wv
def top (i : Nat) : Stmt := PySem.Challenge.pw_laternets_k10_net_texts.main.body.getD i (.Pass ⟨0, 0, 0, 0⟩)
abbrev s__wall : Stmt := top 0
abbrev s_is_integer : Stmt := top 15
abbrev s_is_list : Stmt := top 16
theorem sc_is_list : FnScope ["thing"] ["thing"] (defScope s_is_list) := ⟨rfl, rfl, rfl, by decide +kernel, rfl, by decide +kernel, by decide +kernel⟩
abbrev s_is_word : Stmt := top 17
theorem sc_is_word : FnScope ["thing", "sign"] ["thing"] (defScope s_is_word) := ⟨rfl, rfl, rfl, by decide +kernel, rfl, by decide +kernel, by decide +kernel⟩
abbrev s_is_ground : Stmt := top 18
theorem sc_is_ground : FnScope ["thing", "part"] ["thing"] (defScope s_is_ground) := ⟨rfl, rfl, rfl, by decide +kernel, rfl, by decide +kernel, by decide +kernel⟩
abbrev s_as_term : Stmt := top 19
theorem sc_as_term : FnScope ["thing", "part"] ["thing"] (defScope s_as_term) := ⟨rfl, rfl, rfl, by decide +kernel, rfl, by decide +kernel, by decide +kernel⟩
abbrev s_term_text : Stmt := top 20
theorem sc_term_text : FnScope ["term", "part"] ["term"] (defScope s_term_text) := ⟨rfl, rfl, rfl, by decide +kernel, rfl, by decide +kernel, by decide +kernel⟩
abbrev s_Table_init : Stmt := inClass (top 21) 0
abbrev s_Table_number : Stmt := inClass (top 21) 1
abbrev s_Table_ground : Stmt := inClass (top 21) 2
abbrev s_Table_term : Stmt := inClass (top 21) 3
abbrev s_read_term : Stmt := top 22
theorem sc_read_term : FnScope ["text", "found", "rest"] ["text"] (defScope s_read_term) := ⟨rfl, rfl, rfl, by decide +kernel, rfl, by decide +kernel, by decide +kernel⟩
abbrev s_read_part : Stmt := top 23
theorem sc_read_part : FnScope ["text", "at", "word", "rest", "parts", "part"] ["text"] (defScope s_read_part) := ⟨rfl, rfl, rfl, by decide +kernel, rfl, by decide +kernel, by decide +kernel⟩
abbrev s_is_wire : Stmt := top 28
theorem sc_is_wire : FnScope ["thing", "boxes", "term"] ["thing", "boxes"] (defScope s_is_wire) := ⟨rfl, rfl, rfl, by decide +kernel, rfl, by decide +kernel, by decide +kernel⟩
abbrev s_as_wire : Stmt := top 29
theorem sc_as_wire : FnScope ["thing", "term"] ["thing"] (defScope s_as_wire) := ⟨rfl, rfl, rfl, by decide +kernel, rfl, by decide +kernel, by decide +kernel⟩
abbrev s_is_box : Stmt := top 30
theorem sc_is_box : FnScope ["thing", "boxes", "wires_of", "wire"] ["thing", "boxes", "wires_of"] (defScope s_is_box) := ⟨rfl, rfl, rfl, by decide +kernel, rfl, by decide +kernel, by decide +kernel⟩
abbrev s_as_box : Stmt := top 31
theorem sc_as_box : FnScope ["thing", "wire"] ["thing"] (defScope s_as_box) := ⟨rfl, rfl, rfl, by decide +kernel, rfl, by decide +kernel, by decide +kernel⟩
abbrev s_copied_box : Stmt := top 32
abbrev s_copied_wire : Stmt := top 33
abbrev s_wires_of_box : Stmt := top 34
theorem sc_wires_of_box : FnScope ["box"] ["box"] (defScope s_wires_of_box) := ⟨rfl, rfl, rfl, by decide +kernel, rfl, by decide +kernel, by decide +kernel⟩
abbrev s_checked_boxes : Stmt := top 35
theorem sc_checked_boxes : FnScope ["boxes", "name", "names", "wires_of", "found"] ["boxes"] (defScope s_checked_boxes) := ⟨rfl, rfl, rfl, by decide +kernel, rfl, by decide +kernel, by decide +kernel⟩
abbrev s_checked_outputs : Stmt := top 36
theorem sc_checked_outputs : FnScope ["outputs", "boxes", "found", "name"] ["outputs", "boxes"] (defScope s_checked_outputs) := ⟨rfl, rfl, rfl, by decide +kernel, rfl, by decide +kernel, by decide +kernel⟩
abbrev s_order_of : Stmt := top 37
theorem sc_order_of : FnScope ["boxes", "found", "left", "many", "name", "wire"] ["boxes"] (defScope s_order_of) := ⟨rfl, rfl, rfl, by decide +kernel, rfl, by decide +kernel, by decide +kernel⟩
abbrev s_reached : Stmt := top 38
abbrev s_Net_init : Stmt := inClass (top 39) 0
theorem sc_Net_init : FnScope ["self", "boxes", "outputs", "name"] ["self", "boxes", "outputs"] (defScope s_Net_init) := ⟨rfl, rfl, rfl, by decide +kernel, rfl, by decide +kernel, by decide +kernel⟩
abbrev s_Net_eq : Stmt := inClass (top 39) 1
theorem sc_Net_eq : FnScope ["self", "other"] ["self", "other"] (defScope s_Net_eq) := ⟨rfl, rfl, rfl, by decide +kernel, rfl, by decide +kernel, by decide +kernel⟩
abbrev s_Net_boxes : Stmt := inClass (top 39) 2
abbrev s_Net_outputs : Stmt := inClass (top 39) 3
abbrev s_Net_counting : Stmt := inClass (top 39) 4
abbrev s_Net_is_plain : Stmt := inClass (top 39) 5
abbrev s_Net_ahead : Stmt := inClass (top 39) 6
abbrev s_Net_term : Stmt := inClass (top 39) 7
abbrev s_Net_shown : Stmt := inClass (top 39) 8
abbrev s_Net_told_term : Stmt := inClass (top 39) 9
abbrev s_Net_played : Stmt := inClass (top 39) 10
abbrev s_Net_text : Stmt := inClass (top 39) 11
theorem sc_Net_text : FnScope ["self", "lines", "name", "box", "wire", "line"] ["self"] (defScope s_Net_text) := ⟨rfl, rfl, rfl, by decide +kernel, rfl, by decide +kernel, by decide +kernel⟩
abbrev s_Net_of_text : Stmt := inClass (top 39) 12
theorem sc_Net_of_text : FnScope ["text", "lines", "boxes", "outputs", "index", "line"] ["text"] (defScope s_Net_of_text) := ⟨rfl, rfl, rfl, by decide +kernel, rfl, by decide +kernel, by decide +kernel⟩
abbrev s_checked_time : Stmt := top 40
abbrev s_Values_init : Stmt := inClass (top 41) 0
abbrev s_Values_start_number : Stmt := inClass (top 41) 1
abbrev s_Values_came : Stmt := inClass (top 41) 2
abbrev s_Values_given : Stmt := inClass (top 41) 3
abbrev s_Values_adds_row : Stmt := inClass (top 41) 4
abbrev s_Values_given_now : Stmt := inClass (top 41) 5
abbrev s_wire_text : Stmt := top 42
theorem sc_wire_text : FnScope ["wire", "term"] ["wire"] (defScope s_wire_text) := ⟨rfl, rfl, rfl, by decide +kernel, rfl, by decide +kernel, by decide +kernel⟩
abbrev s_read_wire : Stmt := top 43
theorem sc_read_wire : FnScope ["text", "box", "sign", "rest", "firsts", "part"] ["text"] (defScope s_read_wire) := ⟨rfl, rfl, rfl, by decide +kernel, rfl, by decide +kernel, by decide +kernel⟩
abbrev s_takes_line : Stmt := top 44
theorem sc_takes_line : FnScope ["words", "boxes", "outputs", "table", "wires", "word"] ["words", "boxes", "outputs"] (defScope s_takes_line) := ⟨rfl, rfl, rfl, by decide +kernel, rfl, by decide +kernel, by decide +kernel⟩
abbrev s_fresh : Stmt := top 46
theorem sc_fresh : FnScope ["_law_script"] ["_law_script"] (defScope s_fresh) := ⟨rfl, rfl, rfl, by decide +kernel, rfl, by decide +kernel, by decide +kernel⟩
abbrev s_fill : Stmt := top 47
theorem sc_fill : FnScope ["_law_state", "_law_cells", "_law_nth", "_law_seed", "_law_k", "_law_prime", "_law_far"] ["_law_state"] (defScope s_fill) := ⟨rfl, rfl, rfl, by decide +kernel, rfl, by decide +kernel, by decide +kernel⟩
abbrev s_take : Stmt := top 48
theorem sc_take : FnScope ["_law_state", "_law_many", "_law_laps", "_law_digit"] ["_law_state", "_law_many"] (defScope s_take) := ⟨rfl, rfl, rfl, by decide +kernel, rfl, by decide +kernel, by decide +kernel⟩
abbrev s_one : Stmt := top 49
theorem sc_one : FnScope ["_law_state", "_law_things"] ["_law_state", "_law_things"] (defScope s_one) := ⟨rfl, rfl, rfl, by decide +kernel, rfl, by decide +kernel, by decide +kernel⟩
abbrev s_mix : Stmt := top 50
theorem sc_mix : FnScope ["_law_state", "_law_things", "_law_left", "_law_found"] ["_law_state", "_law_things"] (defScope s_mix) := ⟨rfl, rfl, rfl, by decide +kernel, rfl, by decide +kernel, by decide +kernel⟩
abbrev s_same : Stmt := top 51
theorem sc_same : FnScope ["_law_found", "_law_due", "_law_a", "_law_b"] ["_law_found", "_law_due"] (defScope s_same) := ⟨rfl, rfl, rfl, by decide +kernel, rfl, by decide +kernel, by decide +kernel⟩
abbrev s_arity : Stmt := top 52
theorem sc_arity : FnScope ["_law_f"] ["_law_f"] (defScope s_arity) := ⟨rfl, rfl, rfl, by decide +kernel, rfl, by decide +kernel, by decide +kernel⟩
abbrev s_starts : Stmt := top 53
theorem sc_starts : FnScope ["_law_state", "_law_many", "_law_is_plain", "_law_found", "_law_k", "_law_word", "_law_some"] ["_law_state", "_law_many", "_law_is_plain"] (defScope s_starts) := ⟨rfl, rfl, rfl, by decide +kernel, rfl, by decide +kernel, by decide +kernel⟩
abbrev s_names : Stmt := top 54
theorem sc_names : FnScope ["_law_state", "_law_many"] ["_law_state", "_law_many"] (defScope s_names) := ⟨rfl, rfl, rfl, by decide +kernel, rfl, by decide +kernel, by decide +kernel⟩
abbrev s_drawn : Stmt := top 55
theorem sc_drawn : FnScope ["_law_state", "_law_ops", "_law_most", "_law_is_plain", "_law_names_here", "_law_boxes", "_law_outputs", "_law_ins", "_law_name", "_law_x", "_law_row", "_law_at", "_law_some", "_law_f", "_law_wires_here", "_law_k", "_law_to", "_law_held"] ["_law_state", "_law_ops", "_law_most", "_law_is_plain"] (defScope s_drawn) := ⟨rfl, rfl, rfl, by decide +kernel, rfl, by decide +kernel, by decide +kernel⟩
abbrev s_wires : Stmt := top 56
theorem sc_wires : FnScope ["_law_box"] ["_law_box"] (defScope s_wires) := ⟨rfl, rfl, rfl, by decide +kernel, rfl, by decide +kernel, by decide +kernel⟩
abbrev s_net : Stmt := top 57
theorem sc_net : FnScope ["_law_net_here"] ["_law_net_here"] (defScope s_net) := ⟨rfl, rfl, rfl, by decide +kernel, rfl, by decide +kernel, by decide +kernel⟩
abbrev s_l_term_text : Stmt := top 58
theorem sc_l_term_text : FnScope ["_law_term", "_law_part"] ["_law_term"] (defScope s_l_term_text) := ⟨rfl, rfl, rfl, by decide +kernel, rfl, by decide +kernel, by decide +kernel⟩
abbrev s_l_wire_text : Stmt := top 59
theorem sc_l_wire_text : FnScope ["_law_wire", "_law_starts_here", "_law_term"] ["_law_wire"] (defScope s_l_wire_text) := ⟨rfl, rfl, rfl, by decide +kernel, rfl, by decide +kernel, by decide +kernel⟩
abbrev s_lines : Stmt := top 60
theorem sc_lines : FnScope ["_law_net_here", "_law_found", "_law_name", "_law_box", "_law_words", "_law_out", "_law_wire"] ["_law_net_here"] (defScope s_lines) := ⟨rfl, rfl, rfl, by decide +kernel, rfl, by decide +kernel, by decide +kernel⟩
abbrev s_law : Stmt := top 61
theorem sc_law : FnScope ["_law_script", "_law_state", "_law_turn", "_law_net_here", "_law_told", "_law_due", "_law_line"] ["_law_script"] (defScope s_law) := ⟨rfl, rfl, rfl, by decide +kernel, rfl, by decide +kernel, by decide +kernel⟩
end Lw
namespace Lw
open PySem PySem.Spec PyProof.Rows L2
theorem y_line : Sx.YOk "line" := ⟨by decide, by decide, by decide, by decide, fun _ _ _ _ _ _ _ _ _ _ _ _ => rfl, fun _ _ _ _ _ _ _ _ _ _ _ _ => rfl⟩
theorem y_name : Sx.YOk "name" := ⟨by decide, by decide, by decide, by decide, fun _ _ _ _ _ _ _ _ _ _ _ _ => rfl, fun _ _ _ _ _ _ _ _ _ _ _ _ => rfl⟩
theorem y_thing : Sx.YOk "thing" := ⟨by decide, by decide, by decide, by decide, fun _ _ _ _ _ _ _ _ _ _ _ _ => rfl, fun _ _ _ _ _ _ _ _ _ _ _ _ => rfl⟩
theorem y_time : Sx.YOk "time" := ⟨by decide, by decide, by decide, by decide, fun _ _ _ _ _ _ _ _ _ _ _ _ => rfl, fun _ _ _ _ _ _ _ _ _ _ _ _ => rfl⟩
def loose_0 : List PySem.Str := ["_wall", "NetError", "BadBoxes", "BadBox", "BadOutputs", "BadOutput", "Ring", "BadTime", "TooLong", "BadText", "LETTERS", "MOST_PARTS", "MOST_SIZE", "is_integer", "is_list", "is_word", "is_ground", "as_term", "term_text", "Table", "read_term", "read_part", "MOST_WIRES", "MOST_OUTPUTS", "MOST_TOLD", "is_wire", "as_wire", "is_box", "as_box", "copied_box"]
def loose_1 : List PySem.Str := ["copied_wire", "wires_of_box", "checked_boxes", "checked_outputs", "order_of", "reached", "Net", "checked_time", "Values", "wire_text", "read_wire", "takes_line", "_law_fresh", "_law_fill", "_law_take", "_law_one", "_law_mix", "_law_same", "_law_arity", "_law_starts", "_law_names", "_law_drawn", "_law_wires", "_law_net", "_law_term_text", "_law_wire_text", "_law_lines"]
def loose : List PySem.Str := loose_0 ++ loose_1
def fa_0 : List He.Fa := [.glo "_wall", .glo "is_integer", .glo "is_list", .glo "is_word", .glo "is_ground", .glo "as_term", .glo "term_text", .glo "read_term", .glo "read_part", .glo "is_wire", .glo "as_wire", .glo "is_box", .glo "as_box", .glo "copied_box", .glo "copied_wire", .glo "wires_of_box", .glo "checked_boxes", .glo "checked_outputs", .glo "order_of", .glo "reached", .glo "checked_time", .glo "wire_text", .glo "read_wire", .glo "takes_line", .glo "_law_fresh", .glo "_law_fill", .glo "_law_take", .glo "_law_one", .glo "_law_mix", .glo "_law_same"]
def fa_1 : List He.Fa := [.glo "_law_arity", .glo "_law_starts", .glo "_law_names", .glo "_law_drawn", .glo "_law_wires", .glo "_law_net", .glo "_law_term_text", .glo "_law_wire_text", .glo "_law_lines", .glo "law", .glo "NetError", .glo "BadBoxes", .glo "BadBox", .glo "BadOutputs", .glo "BadOutput", .glo "Ring", .glo "BadTime", .glo "TooLong", .glo "BadText", .glo "Table", .glo "Net", .glo "Values", .free "ValueError", .free "all", .free "bool", .free "dict", .free "enumerate", .free "int", .free "isinstance", .free "len"]
def fa_2 : List He.Fa := [.free "list", .free "max", .free "min", .free "range", .free "sorted", .free "staticmethod", .free "str", .free "sum", .free "tuple", .free "zip", .cls "Table", .mkr "Table", .noat "Table" "numbers", .noat "Table" "key_rows", .noat "Table" "sizes", .noat "Table" "latest", .cls "Net", .mkr "Net", .noat "Net" "box_table", .noat "Net" "output_table", .noat "Net" "order", .cls "Values", .mkr "Values", .noat "Values" "net", .noat "Values" "table", .noat "Values" "rows", .meth "Table" "__init__", .meth "Table" "number", .meth "Table" "ground", .meth "Table" "term"]
def fa_3 : List He.Fa := [.meth "Net" "__init__", .meth "Net" "__eq__", .meth "Net" "boxes", .meth "Net" "outputs", .meth "Net" "counting", .meth "Net" "is_plain", .meth "Net" "ahead", .meth "Net" "term", .meth "Net" "shown", .meth "Net" "told_term", .meth "Net" "played", .meth "Net" "text", .meth "Values" "__init__", .meth "Values" "start_number", .meth "Values" "came", .meth "Values" "given", .meth "Values" "adds_row", .meth "Values" "given_now", .str "LETTERS" "abcdefghijklmnopqrstuvwxyz", .int "MOST_PARTS" 4, .int "MOST_SIZE" 1000000, .int "MOST_WIRES" 4, .int "MOST_OUTPUTS" 4, .int "MOST_TOLD" 400]
def fa : List He.Fa := fa_0 ++ fa_1 ++ fa_2 ++ fa_3
def fn_0 : List He.DefD := [⟨("_wall", none), "_wall", "_wall", defArgs s__wall, defBody s__wall, defScope s__wall, [], []⟩, ⟨("is_integer", none), "is_integer", "is_integer", defArgs s_is_integer, defBody s_is_integer, defScope s_is_integer, [], []⟩, ⟨("is_list", none), "is_list", "is_list", defArgs s_is_list, defBody s_is_list, defScope s_is_list, [], []⟩, ⟨("is_word", none), "is_word", "is_word", defArgs s_is_word, defBody s_is_word, defScope s_is_word, [], []⟩, ⟨("is_ground", none), "is_ground", "is_ground", defArgs s_is_ground, defBody s_is_ground, defScope s_is_ground, [], []⟩, ⟨("as_term", none), "as_term", "as_term", defArgs s_as_term, defBody s_as_term, defScope s_as_term, [], []⟩, ⟨("term_text", none), "term_text", "term_text", defArgs s_term_text, defBody s_term_text, defScope s_term_text, [], []⟩, ⟨("Table", some "__init__"), "__init__", "Table.__init__", defArgs s_Table_init, defBody s_Table_init, defScope s_Table_init, [], []⟩, ⟨("Table", some "number"), "number", "Table.number", defArgs s_Table_number, defBody s_Table_number, defScope s_Table_number, [], []⟩, ⟨("Table", some "ground"), "ground", "Table.ground", defArgs s_Table_ground, defBody s_Table_ground, defScope s_Table_ground, [], []⟩, ⟨("Table", some "term"), "term", "Table.term", defArgs s_Table_term, defBody s_Table_term, defScope s_Table_term, [], []⟩, ⟨("read_term", none), "read_term", "read_term", defArgs s_read_term, defBody s_read_term, defScope s_read_term, [], []⟩, ⟨("read_part", none), "read_part", "read_part", defArgs s_read_part, defBody s_read_part, defScope s_read_part, [], []⟩, ⟨("is_wire", none), "is_wire", "is_wire", defArgs s_is_wire, defBody s_is_wire, defScope s_is_wire, [], []⟩, ⟨("as_wire", none), "as_wire", "as_wire", defArgs s_as_wire, defBody s_as_wire, defScope s_as_wire, [], []⟩, ⟨("is_box", none), "is_box", "is_box", defArgs s_is_box, defBody s_is_box, defScope s_is_box, [], []⟩, ⟨("as_box", none), "as_box", "as_box", defArgs s_as_box, defBody s_as_box, defScope s_as_box, [], []⟩, ⟨("copied_box", none), "copied_box", "copied_box", defArgs s_copied_box, defBody s_copied_box, defScope s_copied_box, [], []⟩, ⟨("copied_wire", none), "copied_wire", "copied_wire", defArgs s_copied_wire, defBody s_copied_wire, defScope s_copied_wire, [], []⟩, ⟨("wires_of_box", none), "wires_of_box", "wires_of_box", defArgs s_wires_of_box, defBody s_wires_of_box, defScope s_wires_of_box, [], []⟩, ⟨("checked_boxes", none), "checked_boxes", "checked_boxes", defArgs s_checked_boxes, defBody s_checked_boxes, defScope s_checked_boxes, [], []⟩, ⟨("checked_outputs", none), "checked_outputs", "checked_outputs", defArgs s_checked_outputs, defBody s_checked_outputs, defScope s_checked_outputs, [], []⟩, ⟨("order_of", none), "order_of", "order_of", defArgs s_order_of, defBody s_order_of, defScope s_order_of, [], []⟩, ⟨("reached", none), "reached", "reached", defArgs s_reached, defBody s_reached, defScope s_reached, [], []⟩, ⟨("Net", some "__init__"), "__init__", "Net.__init__", defArgs s_Net_init, defBody s_Net_init, defScope s_Net_init, [], []⟩, ⟨("Net", some "__eq__"), "__eq__", "Net.__eq__", defArgs s_Net_eq, defBody s_Net_eq, defScope s_Net_eq, [], []⟩, ⟨("Net", some "boxes"), "boxes", "Net.boxes", defArgs s_Net_boxes, defBody s_Net_boxes, defScope s_Net_boxes, [], []⟩, ⟨("Net", some "outputs"), "outputs", "Net.outputs", defArgs s_Net_outputs, defBody s_Net_outputs, defScope s_Net_outputs, [], []⟩, ⟨("Net", some "counting"), "counting", "Net.counting", defArgs s_Net_counting, defBody s_Net_counting, defScope s_Net_counting, [], []⟩, ⟨("Net", some "is_plain"), "is_plain", "Net.is_plain", defArgs s_Net_is_plain, defBody s_Net_is_plain, defScope s_Net_is_plain, [], []⟩]
def fn_1 : List He.DefD := [⟨("Net", some "ahead"), "ahead", "Net.ahead", defArgs s_Net_ahead, defBody s_Net_ahead, defScope s_Net_ahead, [], []⟩, ⟨("Net", some "term"), "term", "Net.term", defArgs s_Net_term, defBody s_Net_term, defScope s_Net_term, [], []⟩, ⟨("Net", some "shown"), "shown", "Net.shown", defArgs s_Net_shown, defBody s_Net_shown, defScope s_Net_shown, [], []⟩, ⟨("Net", some "told_term"), "told_term", "Net.told_term", defArgs s_Net_told_term, defBody s_Net_told_term, defScope s_Net_told_term, [], []⟩, ⟨("Net", some "played"), "played", "Net.played", defArgs s_Net_played, defBody s_Net_played, defScope s_Net_played, [], []⟩, ⟨("Net", some "text"), "text", "Net.text", defArgs s_Net_text, defBody s_Net_text, defScope s_Net_text, [], []⟩, ⟨("checked_time", none), "checked_time", "checked_time", defArgs s_checked_time, defBody s_checked_time, defScope s_checked_time, [], []⟩, ⟨("Values", some "__init__"), "__init__", "Values.__init__", defArgs s_Values_init, defBody s_Values_init, defScope s_Values_init, [], []⟩, ⟨("Values", some "start_number"), "start_number", "Values.start_number", defArgs s_Values_start_number, defBody s_Values_start_number, defScope s_Values_start_number, [], []⟩, ⟨("Values", some "came"), "came", "Values.came", defArgs s_Values_came, defBody s_Values_came, defScope s_Values_came, [], []⟩, ⟨("Values", some "given"), "given", "Values.given", defArgs s_Values_given, defBody s_Values_given, defScope s_Values_given, [], []⟩, ⟨("Values", some "adds_row"), "adds_row", "Values.adds_row", defArgs s_Values_adds_row, defBody s_Values_adds_row, defScope s_Values_adds_row, [], []⟩, ⟨("Values", some "given_now"), "given_now", "Values.given_now", defArgs s_Values_given_now, defBody s_Values_given_now, defScope s_Values_given_now, [], []⟩, ⟨("wire_text", none), "wire_text", "wire_text", defArgs s_wire_text, defBody s_wire_text, defScope s_wire_text, [], []⟩, ⟨("read_wire", none), "read_wire", "read_wire", defArgs s_read_wire, defBody s_read_wire, defScope s_read_wire, [], []⟩, ⟨("takes_line", none), "takes_line", "takes_line", defArgs s_takes_line, defBody s_takes_line, defScope s_takes_line, [], []⟩, ⟨("_law_fresh", none), "_law_fresh", "_law_fresh", defArgs s_fresh, defBody s_fresh, defScope s_fresh, [], []⟩, ⟨("_law_fill", none), "_law_fill", "_law_fill", defArgs s_fill, defBody s_fill, defScope s_fill, [], []⟩, ⟨("_law_take", none), "_law_take", "_law_take", defArgs s_take, defBody s_take, defScope s_take, [], []⟩, ⟨("_law_one", none), "_law_one", "_law_one", defArgs s_one, defBody s_one, defScope s_one, [], []⟩, ⟨("_law_mix", none), "_law_mix", "_law_mix", defArgs s_mix, defBody s_mix, defScope s_mix, [], []⟩, ⟨("_law_same", none), "_law_same", "_law_same", defArgs s_same, defBody s_same, defScope s_same, [], []⟩, ⟨("_law_arity", none), "_law_arity", "_law_arity", defArgs s_arity, defBody s_arity, defScope s_arity, [], []⟩, ⟨("_law_starts", none), "_law_starts", "_law_starts", defArgs s_starts, defBody s_starts, defScope s_starts, [], []⟩, ⟨("_law_names", none), "_law_names", "_law_names", defArgs s_names, defBody s_names, defScope s_names, [], []⟩, ⟨("_law_drawn", none), "_law_drawn", "_law_drawn", defArgs s_drawn, defBody s_drawn, defScope s_drawn, [], []⟩, ⟨("_law_wires", none), "_law_wires", "_law_wires", defArgs s_wires, defBody s_wires, defScope s_wires, [], []⟩, ⟨("_law_net", none), "_law_net", "_law_net", defArgs s_net, defBody s_net, defScope s_net, [], []⟩, ⟨("_law_term_text", none), "_law_term_text", "_law_term_text", defArgs s_l_term_text, defBody s_l_term_text, defScope s_l_term_text, [], []⟩, ⟨("_law_wire_text", none), "_law_wire_text", "_law_wire_text", defArgs s_l_wire_text, defBody s_l_wire_text, defScope s_l_wire_text, [], []⟩]
def fn_2 : List He.DefD := [⟨("_law_lines", none), "_law_lines", "_law_lines", defArgs s_lines, defBody s_lines, defScope s_lines, [], []⟩, ⟨("law", none), "law", "law", defArgs s_law, defBody s_law, defScope s_law, [], []⟩]
def fn : List He.DefD := fn_0 ++ fn_1 ++ fn_2
def xs : List Str := ["BadBoxes", "BadBox", "BadOutputs", "BadOutput", "Ring", "BadTime", "TooLong", "BadText", "Net.of_text"]
def vs : List ExV := [exOf "BadBoxes.__init__" (inClass (top 3) 0), exOf "BadBox.__init__" (inClass (top 4) 0), exOf "BadOutputs.__init__" (inClass (top 5) 0), exOf "BadOutput.__init__" (inClass (top 6) 0), exOf "Ring.__init__" (inClass (top 7) 0), exOf "BadTime.__init__" (inClass (top 8) 0), exOf "TooLong.__init__" (inClass (top 9) 0), exOf "BadText.__init__" (inClass (top 10) 0), stOf "of_text" "Net.of_text" s_Net_of_text]
abbrev PR : Program := PySem.Challenge.pw_laternets_k10_net_texts
def clL (K : PySem.W.Frag) : List Bool := [xB K (He.ga K "BadBoxes") (He.ma K (He.ga K "BadBoxes") "__init__") "thing" "BadBoxes.__init__" PR.main.file && excB K (He.ga K "BadBoxes"), xB K (He.ga K "BadBox") (He.ma K (He.ga K "BadBox") "__init__") "name" "BadBox.__init__" PR.main.file && excB K (He.ga K "BadBox"), xB K (He.ga K "BadOutputs") (He.ma K (He.ga K "BadOutputs") "__init__") "thing" "BadOutputs.__init__" PR.main.file && excB K (He.ga K "BadOutputs"), xB K (He.ga K "BadOutput") (He.ma K (He.ga K "BadOutput") "__init__") "name" "BadOutput.__init__" PR.main.file && excB K (He.ga K "BadOutput"), xB K (He.ga K "Ring") (He.ma K (He.ga K "Ring") "__init__") "name" "Ring.__init__" PR.main.file && excB K (He.ga K "Ring"), xB K (He.ga K "BadTime") (He.ma K (He.ga K "BadTime") "__init__") "time" "BadTime.__init__" PR.main.file && excB K (He.ga K "BadTime"), xB K (He.ga K "TooLong") (He.ma K (He.ga K "TooLong") "__init__") "time" "TooLong.__init__" PR.main.file && excB K (He.ga K "TooLong"), xB K (He.ga K "BadText") (He.ma K (He.ga K "BadText") "__init__") "line" "BadText.__init__" PR.main.file && excB K (He.ga K "BadText")]
def stL (K : PySem.W.Frag) : Bool := stB K "Net" "of_text" "Net.of_text"
def netB (K : PySem.W.Frag) : Bool := PySem.W.excIn K (He.ga K "NetError") veM "ValueError.__new__" && (PySem.W.keepIn K (.ref (He.ga K "NetError")) && excB K (He.ga K "NetError"))
def owL (K : PySem.W.Frag) : List Bool := [ownIB K (He.ga K "Table"), ownIB K (He.ga K "Net"), ownCB K (He.ga K "Net") (He.fAd K ("Net", some "__eq__")), ownIB K (He.ga K "Values")]
def xb (K : PySem.W.Frag) : Bool := (clL K).all id && (netB K && (stL K && ((owL K).all id)))
abbrev R : PySem.W.OpenRow := PySem.W.OpenLaw.row PySem.Challenge.rw_laternets_k10_net_texts
abbrev hk : PySem.W.Hook := hookX 6 fa fn xb xs vs
def ob (s : PySem.W.SharedT) : AlX := obsXG 6 fa fn xb xs (HandSHeadRun.getT s)
theorem ob_eq (s : PySem.W.SharedT) : ob s = hk.obs s.abs := obsXG_eq (HandSHeadRun.getT_eq s)
theorem run (w : World) : HandSHeadRun.RunEq R (PySem.W.view R.prog [61]) hk ob 60000 loose w := by
  intro os
  kernel_rfl

end Lw
/-! Calls that leave a default to the def. -/
namespace L2
open PySem PySem.Spec PyProof.Rows
end L2
namespace Wv
open PySem PySem.Spec PyProof.Rows L2 Evl
variable {g : Gx} {env : List Sl} {P : Dt → List Sl → Prop}
end Wv
namespace Lw
open PySem PySem.Spec PyProof.Rows L2 Evl Wv
/-- what the run up to the law leaves, by names -/
structure Txt (P : Program) (K : PySem.W.Frag) (mg : Str → Option Value) : Type where
  c_NetError : Addr
  g_NetError : mg "NetError" = some (.ref c_NetError)
  c_BadBoxes : Addr
  g_BadBoxes : mg "BadBoxes" = some (.ref c_BadBoxes)
  c_BadBox : Addr
  g_BadBox : mg "BadBox" = some (.ref c_BadBox)
  c_BadOutputs : Addr
  g_BadOutputs : mg "BadOutputs" = some (.ref c_BadOutputs)
  c_BadOutput : Addr
  g_BadOutput : mg "BadOutput" = some (.ref c_BadOutput)
  c_Ring : Addr
  g_Ring : mg "Ring" = some (.ref c_Ring)
  c_BadTime : Addr
  g_BadTime : mg "BadTime" = some (.ref c_BadTime)
  c_TooLong : Addr
  g_TooLong : mg "TooLong" = some (.ref c_TooLong)
  c_BadText : Addr
  g_BadText : mg "BadText" = some (.ref c_BadText)
  c_Table : Addr
  g_Table : mg "Table" = some (.ref c_Table)
  c_Net : Addr
  g_Net : mg "Net" = some (.ref c_Net)
  c_Values : Addr
  g_Values : mg "Values" = some (.ref c_Values)
  a__wall : Addr
  d__wall : FuncData
  F__wall : FunD K "_wall" "_wall" (defArgs s__wall) (defBody s__wall) (defScope s__wall) [] [] a__wall d__wall
  b__wall : Binds K d__wall ["k"] []
  g__wall : mg "_wall" = some (.ref a__wall)
  a_is_integer : Addr
  d_is_integer : FuncData
  F_is_integer : FunD K "is_integer" "is_integer" (defArgs s_is_integer) (defBody s_is_integer) (defScope s_is_integer) [] [] a_is_integer d_is_integer
  b_is_integer : Binds K d_is_integer ["thing"] []
  g_is_integer : mg "is_integer" = some (.ref a_is_integer)
  a_is_list : Addr
  d_is_list : FuncData
  F_is_list : FunD K "is_list" "is_list" (defArgs s_is_list) (defBody s_is_list) (defScope s_is_list) [] [] a_is_list d_is_list
  b_is_list : Binds K d_is_list ["thing"] []
  g_is_list : mg "is_list" = some (.ref a_is_list)
  a_is_word : Addr
  d_is_word : FuncData
  F_is_word : FunD K "is_word" "is_word" (defArgs s_is_word) (defBody s_is_word) (defScope s_is_word) [] [] a_is_word d_is_word
  b_is_word : Binds K d_is_word ["thing"] []
  g_is_word : mg "is_word" = some (.ref a_is_word)
  a_is_ground : Addr
  d_is_ground : FuncData
  F_is_ground : FunD K "is_ground" "is_ground" (defArgs s_is_ground) (defBody s_is_ground) (defScope s_is_ground) [] [] a_is_ground d_is_ground
  b_is_ground : Binds K d_is_ground ["thing"] []
  g_is_ground : mg "is_ground" = some (.ref a_is_ground)
  a_as_term : Addr
  d_as_term : FuncData
  F_as_term : FunD K "as_term" "as_term" (defArgs s_as_term) (defBody s_as_term) (defScope s_as_term) [] [] a_as_term d_as_term
  b_as_term : Binds K d_as_term ["thing"] []
  g_as_term : mg "as_term" = some (.ref a_as_term)
  a_term_text : Addr
  d_term_text : FuncData
  F_term_text : FunD K "term_text" "term_text" (defArgs s_term_text) (defBody s_term_text) (defScope s_term_text) [] [] a_term_text d_term_text
  b_term_text : Binds K d_term_text ["term"] []
  g_term_text : mg "term_text" = some (.ref a_term_text)
  a_Table_init : Addr
  d_Table_init : FuncData
  F_Table_init : FunD K "__init__" "Table.__init__" (defArgs s_Table_init) (defBody s_Table_init) (defScope s_Table_init) [] [] a_Table_init d_Table_init
  b_Table_init : Binds K d_Table_init ["self"] []
  m_Table_init : Meth K c_Table "__init__" a_Table_init
  a_Table_number : Addr
  d_Table_number : FuncData
  F_Table_number : FunD K "number" "Table.number" (defArgs s_Table_number) (defBody s_Table_number) (defScope s_Table_number) [] [] a_Table_number d_Table_number
  b_Table_number : Binds K d_Table_number ["self", "key"] []
  m_Table_number : Meth K c_Table "number" a_Table_number
  a_Table_ground : Addr
  d_Table_ground : FuncData
  F_Table_ground : FunD K "ground" "Table.ground" (defArgs s_Table_ground) (defBody s_Table_ground) (defScope s_Table_ground) [] [] a_Table_ground d_Table_ground
  b_Table_ground : Binds K d_Table_ground ["self", "term"] []
  m_Table_ground : Meth K c_Table "ground" a_Table_ground
  a_Table_term : Addr
  d_Table_term : FuncData
  F_Table_term : FunD K "term" "Table.term" (defArgs s_Table_term) (defBody s_Table_term) (defScope s_Table_term) [] [] a_Table_term d_Table_term
  b_Table_term : Binds K d_Table_term ["self", "number"] []
  m_Table_term : Meth K c_Table "term" a_Table_term
  a_read_term : Addr
  d_read_term : FuncData
  F_read_term : FunD K "read_term" "read_term" (defArgs s_read_term) (defBody s_read_term) (defScope s_read_term) [] [] a_read_term d_read_term
  b_read_term : Binds K d_read_term ["text"] []
  g_read_term : mg "read_term" = some (.ref a_read_term)
  a_read_part : Addr
  d_read_part : FuncData
  F_read_part : FunD K "read_part" "read_part" (defArgs s_read_part) (defBody s_read_part) (defScope s_read_part) [] [] a_read_part d_read_part
  b_read_part : Binds K d_read_part ["text"] []
  g_read_part : mg "read_part" = some (.ref a_read_part)
  a_is_wire : Addr
  d_is_wire : FuncData
  F_is_wire : FunD K "is_wire" "is_wire" (defArgs s_is_wire) (defBody s_is_wire) (defScope s_is_wire) [] [] a_is_wire d_is_wire
  b_is_wire : Binds K d_is_wire ["thing", "boxes"] []
  g_is_wire : mg "is_wire" = some (.ref a_is_wire)
  a_as_wire : Addr
  d_as_wire : FuncData
  F_as_wire : FunD K "as_wire" "as_wire" (defArgs s_as_wire) (defBody s_as_wire) (defScope s_as_wire) [] [] a_as_wire d_as_wire
  b_as_wire : Binds K d_as_wire ["thing"] []
  g_as_wire : mg "as_wire" = some (.ref a_as_wire)
  a_is_box : Addr
  d_is_box : FuncData
  F_is_box : FunD K "is_box" "is_box" (defArgs s_is_box) (defBody s_is_box) (defScope s_is_box) [] [] a_is_box d_is_box
  b_is_box : Binds K d_is_box ["thing", "boxes", "wires_of"] []
  g_is_box : mg "is_box" = some (.ref a_is_box)
  a_as_box : Addr
  d_as_box : FuncData
  F_as_box : FunD K "as_box" "as_box" (defArgs s_as_box) (defBody s_as_box) (defScope s_as_box) [] [] a_as_box d_as_box
  b_as_box : Binds K d_as_box ["thing"] []
  g_as_box : mg "as_box" = some (.ref a_as_box)
  a_copied_box : Addr
  d_copied_box : FuncData
  F_copied_box : FunD K "copied_box" "copied_box" (defArgs s_copied_box) (defBody s_copied_box) (defScope s_copied_box) [] [] a_copied_box d_copied_box
  b_copied_box : Binds K d_copied_box ["box"] []
  g_copied_box : mg "copied_box" = some (.ref a_copied_box)
  a_copied_wire : Addr
  d_copied_wire : FuncData
  F_copied_wire : FunD K "copied_wire" "copied_wire" (defArgs s_copied_wire) (defBody s_copied_wire) (defScope s_copied_wire) [] [] a_copied_wire d_copied_wire
  b_copied_wire : Binds K d_copied_wire ["wire"] []
  g_copied_wire : mg "copied_wire" = some (.ref a_copied_wire)
  a_wires_of_box : Addr
  d_wires_of_box : FuncData
  F_wires_of_box : FunD K "wires_of_box" "wires_of_box" (defArgs s_wires_of_box) (defBody s_wires_of_box) (defScope s_wires_of_box) [] [] a_wires_of_box d_wires_of_box
  b_wires_of_box : Binds K d_wires_of_box ["box"] []
  g_wires_of_box : mg "wires_of_box" = some (.ref a_wires_of_box)
  a_checked_boxes : Addr
  d_checked_boxes : FuncData
  F_checked_boxes : FunD K "checked_boxes" "checked_boxes" (defArgs s_checked_boxes) (defBody s_checked_boxes) (defScope s_checked_boxes) [] [] a_checked_boxes d_checked_boxes
  b_checked_boxes : Binds K d_checked_boxes ["boxes"] []
  g_checked_boxes : mg "checked_boxes" = some (.ref a_checked_boxes)
  a_checked_outputs : Addr
  d_checked_outputs : FuncData
  F_checked_outputs : FunD K "checked_outputs" "checked_outputs" (defArgs s_checked_outputs) (defBody s_checked_outputs) (defScope s_checked_outputs) [] [] a_checked_outputs d_checked_outputs
  b_checked_outputs : Binds K d_checked_outputs ["outputs", "boxes"] []
  g_checked_outputs : mg "checked_outputs" = some (.ref a_checked_outputs)
  a_order_of : Addr
  d_order_of : FuncData
  F_order_of : FunD K "order_of" "order_of" (defArgs s_order_of) (defBody s_order_of) (defScope s_order_of) [] [] a_order_of d_order_of
  b_order_of : Binds K d_order_of ["boxes"] []
  g_order_of : mg "order_of" = some (.ref a_order_of)
  a_reached : Addr
  d_reached : FuncData
  F_reached : FunD K "reached" "reached" (defArgs s_reached) (defBody s_reached) (defScope s_reached) [] [] a_reached d_reached
  b_reached : Binds K d_reached ["boxes", "start", "holds_nothing"] []
  g_reached : mg "reached" = some (.ref a_reached)
  a_Net_init : Addr
  d_Net_init : FuncData
  F_Net_init : FunD K "__init__" "Net.__init__" (defArgs s_Net_init) (defBody s_Net_init) (defScope s_Net_init) [] [] a_Net_init d_Net_init
  b_Net_init : Binds K d_Net_init ["self", "boxes", "outputs"] []
  m_Net_init : Meth K c_Net "__init__" a_Net_init
  a_Net_eq : Addr
  d_Net_eq : FuncData
  F_Net_eq : FunD K "__eq__" "Net.__eq__" (defArgs s_Net_eq) (defBody s_Net_eq) (defScope s_Net_eq) [] [] a_Net_eq d_Net_eq
  b_Net_eq : Binds K d_Net_eq ["self", "other"] []
  m_Net_eq : Meth K c_Net "__eq__" a_Net_eq
  a_Net_boxes : Addr
  d_Net_boxes : FuncData
  F_Net_boxes : FunD K "boxes" "Net.boxes" (defArgs s_Net_boxes) (defBody s_Net_boxes) (defScope s_Net_boxes) [] [] a_Net_boxes d_Net_boxes
  b_Net_boxes : Binds K d_Net_boxes ["self"] []
  m_Net_boxes : Meth K c_Net "boxes" a_Net_boxes
  a_Net_outputs : Addr
  d_Net_outputs : FuncData
  F_Net_outputs : FunD K "outputs" "Net.outputs" (defArgs s_Net_outputs) (defBody s_Net_outputs) (defScope s_Net_outputs) [] [] a_Net_outputs d_Net_outputs
  b_Net_outputs : Binds K d_Net_outputs ["self"] []
  m_Net_outputs : Meth K c_Net "outputs" a_Net_outputs
  a_Net_counting : Addr
  d_Net_counting : FuncData
  F_Net_counting : FunD K "counting" "Net.counting" (defArgs s_Net_counting) (defBody s_Net_counting) (defScope s_Net_counting) [] [] a_Net_counting d_Net_counting
  b_Net_counting : Binds K d_Net_counting ["self"] []
  m_Net_counting : Meth K c_Net "counting" a_Net_counting
  a_Net_is_plain : Addr
  d_Net_is_plain : FuncData
  F_Net_is_plain : FunD K "is_plain" "Net.is_plain" (defArgs s_Net_is_plain) (defBody s_Net_is_plain) (defScope s_Net_is_plain) [] [] a_Net_is_plain d_Net_is_plain
  b_Net_is_plain : Binds K d_Net_is_plain ["self"] []
  m_Net_is_plain : Meth K c_Net "is_plain" a_Net_is_plain
  a_Net_ahead : Addr
  d_Net_ahead : FuncData
  F_Net_ahead : FunD K "ahead" "Net.ahead" (defArgs s_Net_ahead) (defBody s_Net_ahead) (defScope s_Net_ahead) [] [] a_Net_ahead d_Net_ahead
  b_Net_ahead : Binds K d_Net_ahead ["self"] []
  m_Net_ahead : Meth K c_Net "ahead" a_Net_ahead
  a_Net_term : Addr
  d_Net_term : FuncData
  F_Net_term : FunD K "term" "Net.term" (defArgs s_Net_term) (defBody s_Net_term) (defScope s_Net_term) [] [] a_Net_term d_Net_term
  b_Net_term : Binds K d_Net_term ["self", "box", "t"] []
  m_Net_term : Meth K c_Net "term" a_Net_term
  a_Net_shown : Addr
  d_Net_shown : FuncData
  F_Net_shown : FunD K "shown" "Net.shown" (defArgs s_Net_shown) (defBody s_Net_shown) (defScope s_Net_shown) [] [] a_Net_shown d_Net_shown
  b_Net_shown : Binds K d_Net_shown ["self", "output", "t"] []
  m_Net_shown : Meth K c_Net "shown" a_Net_shown
  a_Net_told_term : Addr
  d_Net_told_term : FuncData
  F_Net_told_term : FunD K "told_term" "Net.told_term" (defArgs s_Net_told_term) (defBody s_Net_told_term) (defScope s_Net_told_term) [] [] a_Net_told_term d_Net_told_term
  b_Net_told_term : Binds K d_Net_told_term ["self", "wire", "t"] []
  m_Net_told_term : Meth K c_Net "told_term" a_Net_told_term
  a_Net_played : Addr
  d_Net_played : FuncData
  F_Net_played : FunD K "played" "Net.played" (defArgs s_Net_played) (defBody s_Net_played) (defScope s_Net_played) [] [] a_Net_played d_Net_played
  b_Net_played : Binds K d_Net_played ["self", "meaning", "t"] []
  m_Net_played : Meth K c_Net "played" a_Net_played
  a_Net_text : Addr
  d_Net_text : FuncData
  F_Net_text : FunD K "text" "Net.text" (defArgs s_Net_text) (defBody s_Net_text) (defScope s_Net_text) [] [] a_Net_text d_Net_text
  b_Net_text : Binds K d_Net_text ["self"] []
  m_Net_text : Meth K c_Net "text" a_Net_text
  a_Net_of_text : Addr
  d_Net_of_text : FuncData
  F_Net_of_text : FunD K "of_text" "Net.of_text" (defArgs s_Net_of_text) (defBody s_Net_of_text) (defScope s_Net_of_text) [] [] a_Net_of_text d_Net_of_text
  b_Net_of_text : Binds K d_Net_of_text ["text"] []
  p_Net_of_text : Addr
  sm_Net_of_text : L2.SMet K c_Net (.type "type") "of_text" p_Net_of_text a_Net_of_text
  cr_Net_of_text : ClX.CRead K c_Net (.type "type")
  a_checked_time : Addr
  d_checked_time : FuncData
  F_checked_time : FunD K "checked_time" "checked_time" (defArgs s_checked_time) (defBody s_checked_time) (defScope s_checked_time) [] [] a_checked_time d_checked_time
  b_checked_time : Binds K d_checked_time ["t"] []
  g_checked_time : mg "checked_time" = some (.ref a_checked_time)
  a_Values_init : Addr
  d_Values_init : FuncData
  F_Values_init : FunD K "__init__" "Values.__init__" (defArgs s_Values_init) (defBody s_Values_init) (defScope s_Values_init) [] [] a_Values_init d_Values_init
  b_Values_init : Binds K d_Values_init ["self", "net", "table"] []
  m_Values_init : Meth K c_Values "__init__" a_Values_init
  a_Values_start_number : Addr
  d_Values_start_number : FuncData
  F_Values_start_number : FunD K "start_number" "Values.start_number" (defArgs s_Values_start_number) (defBody s_Values_start_number) (defScope s_Values_start_number) [] [] a_Values_start_number d_Values_start_number
  b_Values_start_number : Binds K d_Values_start_number ["self", "term"] []
  m_Values_start_number : Meth K c_Values "start_number" a_Values_start_number
  a_Values_came : Addr
  d_Values_came : FuncData
  F_Values_came : FunD K "came" "Values.came" (defArgs s_Values_came) (defBody s_Values_came) (defScope s_Values_came) [] [] a_Values_came d_Values_came
  b_Values_came : Binds K d_Values_came ["self", "word", "t"] []
  m_Values_came : Meth K c_Values "came" a_Values_came
  a_Values_given : Addr
  d_Values_given : FuncData
  F_Values_given : FunD K "given" "Values.given" (defArgs s_Values_given) (defBody s_Values_given) (defScope s_Values_given) [] [] a_Values_given d_Values_given
  b_Values_given : Binds K d_Values_given ["self", "wire", "t"] []
  m_Values_given : Meth K c_Values "given" a_Values_given
  a_Values_adds_row : Addr
  d_Values_adds_row : FuncData
  F_Values_adds_row : FunD K "adds_row" "Values.adds_row" (defArgs s_Values_adds_row) (defBody s_Values_adds_row) (defScope s_Values_adds_row) [] [] a_Values_adds_row d_Values_adds_row
  b_Values_adds_row : Binds K d_Values_adds_row ["self"] []
  m_Values_adds_row : Meth K c_Values "adds_row" a_Values_adds_row
  a_Values_given_now : Addr
  d_Values_given_now : FuncData
  F_Values_given_now : FunD K "given_now" "Values.given_now" (defArgs s_Values_given_now) (defBody s_Values_given_now) (defScope s_Values_given_now) [] [] a_Values_given_now d_Values_given_now
  b_Values_given_now : Binds K d_Values_given_now ["self", "wire", "t", "row"] []
  m_Values_given_now : Meth K c_Values "given_now" a_Values_given_now
  a_wire_text : Addr
  d_wire_text : FuncData
  F_wire_text : FunD K "wire_text" "wire_text" (defArgs s_wire_text) (defBody s_wire_text) (defScope s_wire_text) [] [] a_wire_text d_wire_text
  b_wire_text : Binds K d_wire_text ["wire"] []
  g_wire_text : mg "wire_text" = some (.ref a_wire_text)
  a_read_wire : Addr
  d_read_wire : FuncData
  F_read_wire : FunD K "read_wire" "read_wire" (defArgs s_read_wire) (defBody s_read_wire) (defScope s_read_wire) [] [] a_read_wire d_read_wire
  b_read_wire : Binds K d_read_wire ["text"] []
  g_read_wire : mg "read_wire" = some (.ref a_read_wire)
  a_takes_line : Addr
  d_takes_line : FuncData
  F_takes_line : FunD K "takes_line" "takes_line" (defArgs s_takes_line) (defBody s_takes_line) (defScope s_takes_line) [] [] a_takes_line d_takes_line
  b_takes_line : Binds K d_takes_line ["words", "boxes", "outputs"] []
  g_takes_line : mg "takes_line" = some (.ref a_takes_line)
  a_fresh : Addr
  d_fresh : FuncData
  F_fresh : FunD K "_law_fresh" "_law_fresh" (defArgs s_fresh) (defBody s_fresh) (defScope s_fresh) [] [] a_fresh d_fresh
  b_fresh : Binds K d_fresh ["_law_script"] []
  g_fresh : mg "_law_fresh" = some (.ref a_fresh)
  a_fill : Addr
  d_fill : FuncData
  F_fill : FunD K "_law_fill" "_law_fill" (defArgs s_fill) (defBody s_fill) (defScope s_fill) [] [] a_fill d_fill
  b_fill : Binds K d_fill ["_law_state"] []
  g_fill : mg "_law_fill" = some (.ref a_fill)
  a_take : Addr
  d_take : FuncData
  F_take : FunD K "_law_take" "_law_take" (defArgs s_take) (defBody s_take) (defScope s_take) [] [] a_take d_take
  b_take : Binds K d_take ["_law_state", "_law_many"] []
  g_take : mg "_law_take" = some (.ref a_take)
  a_one : Addr
  d_one : FuncData
  F_one : FunD K "_law_one" "_law_one" (defArgs s_one) (defBody s_one) (defScope s_one) [] [] a_one d_one
  b_one : Binds K d_one ["_law_state", "_law_things"] []
  g_one : mg "_law_one" = some (.ref a_one)
  a_mix : Addr
  d_mix : FuncData
  F_mix : FunD K "_law_mix" "_law_mix" (defArgs s_mix) (defBody s_mix) (defScope s_mix) [] [] a_mix d_mix
  b_mix : Binds K d_mix ["_law_state", "_law_things"] []
  g_mix : mg "_law_mix" = some (.ref a_mix)
  a_same : Addr
  d_same : FuncData
  F_same : FunD K "_law_same" "_law_same" (defArgs s_same) (defBody s_same) (defScope s_same) [] [] a_same d_same
  b_same : Binds K d_same ["_law_found", "_law_due"] []
  g_same : mg "_law_same" = some (.ref a_same)
  a_arity : Addr
  d_arity : FuncData
  F_arity : FunD K "_law_arity" "_law_arity" (defArgs s_arity) (defBody s_arity) (defScope s_arity) [] [] a_arity d_arity
  b_arity : Binds K d_arity ["_law_f"] []
  g_arity : mg "_law_arity" = some (.ref a_arity)
  a_starts : Addr
  d_starts : FuncData
  F_starts : FunD K "_law_starts" "_law_starts" (defArgs s_starts) (defBody s_starts) (defScope s_starts) [] [] a_starts d_starts
  b_starts : Binds K d_starts ["_law_state", "_law_many", "_law_is_plain"] []
  g_starts : mg "_law_starts" = some (.ref a_starts)
  a_names : Addr
  d_names : FuncData
  F_names : FunD K "_law_names" "_law_names" (defArgs s_names) (defBody s_names) (defScope s_names) [] [] a_names d_names
  b_names : Binds K d_names ["_law_state", "_law_many"] []
  g_names : mg "_law_names" = some (.ref a_names)
  a_drawn : Addr
  d_drawn : FuncData
  F_drawn : FunD K "_law_drawn" "_law_drawn" (defArgs s_drawn) (defBody s_drawn) (defScope s_drawn) [] [] a_drawn d_drawn
  b_drawn : Binds K d_drawn ["_law_state", "_law_ops", "_law_most", "_law_is_plain"] []
  g_drawn : mg "_law_drawn" = some (.ref a_drawn)
  a_wires : Addr
  d_wires : FuncData
  F_wires : FunD K "_law_wires" "_law_wires" (defArgs s_wires) (defBody s_wires) (defScope s_wires) [] [] a_wires d_wires
  b_wires : Binds K d_wires ["_law_box"] []
  g_wires : mg "_law_wires" = some (.ref a_wires)
  a_net : Addr
  d_net : FuncData
  F_net : FunD K "_law_net" "_law_net" (defArgs s_net) (defBody s_net) (defScope s_net) [] [] a_net d_net
  b_net : Binds K d_net ["_law_net_here"] []
  g_net : mg "_law_net" = some (.ref a_net)
  a_l_term_text : Addr
  d_l_term_text : FuncData
  F_l_term_text : FunD K "_law_term_text" "_law_term_text" (defArgs s_l_term_text) (defBody s_l_term_text) (defScope s_l_term_text) [] [] a_l_term_text d_l_term_text
  b_l_term_text : Binds K d_l_term_text ["_law_term"] []
  g_l_term_text : mg "_law_term_text" = some (.ref a_l_term_text)
  a_l_wire_text : Addr
  d_l_wire_text : FuncData
  F_l_wire_text : FunD K "_law_wire_text" "_law_wire_text" (defArgs s_l_wire_text) (defBody s_l_wire_text) (defScope s_l_wire_text) [] [] a_l_wire_text d_l_wire_text
  b_l_wire_text : Binds K d_l_wire_text ["_law_wire"] []
  g_l_wire_text : mg "_law_wire_text" = some (.ref a_l_wire_text)
  a_lines : Addr
  d_lines : FuncData
  F_lines : FunD K "_law_lines" "_law_lines" (defArgs s_lines) (defBody s_lines) (defScope s_lines) [] [] a_lines d_lines
  b_lines : Binds K d_lines ["_law_net_here"] []
  g_lines : mg "_law_lines" = some (.ref a_lines)
  a_law : Addr
  d_law : FuncData
  F_law : FunD K "law" "law" (defArgs s_law) (defBody s_law) (defScope s_law) [] [] a_law d_law
  b_law : Binds K d_law ["_law_script"] []
  l_Table : Cls K c_Table
  i_Table : Wv.OwnI K c_Table
  k_Table : Mk K c_Table a_Table_init
  o_Table_numbers : NoAttr K c_Table "numbers"
  o_Table_key_rows : NoAttr K c_Table "key_rows"
  o_Table_sizes : NoAttr K c_Table "sizes"
  o_Table_latest : NoAttr K c_Table "latest"
  l_Net : Cls K c_Net
  i_Net : Wv.OwnI K c_Net
  q_Net : Wv.OwnCmp K c_Net a_Net_eq
  k_Net : Mk K c_Net a_Net_init
  o_Net_box_table : NoAttr K c_Net "box_table"
  o_Net_output_table : NoAttr K c_Net "output_table"
  o_Net_order : NoAttr K c_Net "order"
  l_Values : Cls K c_Values
  i_Values : Wv.OwnI K c_Values
  k_Values : Mk K c_Values a_Values_init
  o_Values_net : NoAttr K c_Values "net"
  o_Values_table : NoAttr K c_Values "table"
  o_Values_rows : NoAttr K c_Values "rows"
  e_NetError : ExcC K c_NetError
  x_NetError : PySem.W.excIn K c_NetError veM "ValueError.__new__" = true
  k_NetError : PySem.W.keepIn K (.ref c_NetError) = true
  e_BadBoxes : ExcC K c_BadBoxes
  f_BadBoxes : Addr
  X_BadBoxes : Sx.XTxt K P "thing" c_BadBoxes f_BadBoxes
  y_BadBoxes : XfC K c_BadBoxes
  e_BadBox : ExcC K c_BadBox
  f_BadBox : Addr
  X_BadBox : Sx.XTxt K P "name" c_BadBox f_BadBox
  y_BadBox : XfC K c_BadBox
  e_BadOutputs : ExcC K c_BadOutputs
  f_BadOutputs : Addr
  X_BadOutputs : Sx.XTxt K P "thing" c_BadOutputs f_BadOutputs
  y_BadOutputs : XfC K c_BadOutputs
  e_BadOutput : ExcC K c_BadOutput
  f_BadOutput : Addr
  X_BadOutput : Sx.XTxt K P "name" c_BadOutput f_BadOutput
  y_BadOutput : XfC K c_BadOutput
  e_Ring : ExcC K c_Ring
  f_Ring : Addr
  X_Ring : Sx.XTxt K P "name" c_Ring f_Ring
  y_Ring : XfC K c_Ring
  e_BadTime : ExcC K c_BadTime
  f_BadTime : Addr
  X_BadTime : Sx.XTxt K P "time" c_BadTime f_BadTime
  y_BadTime : XfC K c_BadTime
  e_TooLong : ExcC K c_TooLong
  f_TooLong : Addr
  X_TooLong : Sx.XTxt K P "time" c_TooLong f_TooLong
  y_TooLong : XfC K c_TooLong
  e_BadText : ExcC K c_BadText
  f_BadText : Addr
  X_BadText : Sx.XTxt K P "line" c_BadText f_BadText
  y_BadText : XfC K c_BadText
  h_LETTERS : ∃ t, mg "LETTERS" = some (.str "abcdefghijklmnopqrstuvwxyz" t)
  h_MOST_PARTS : ∃ t, mg "MOST_PARTS" = some (.int 4 t)
  h_MOST_SIZE : ∃ t, mg "MOST_SIZE" = some (.int 1000000 t)
  h_MOST_WIRES : ∃ t, mg "MOST_WIRES" = some (.int 4 t)
  h_MOST_OUTPUTS : ∃ t, mg "MOST_OUTPUTS" = some (.int 4 t)
  h_MOST_TOLD : ∃ t, mg "MOST_TOLD" = some (.int 400 t)
  n_ValueError : mg "ValueError" = none
  n_all : mg "all" = none
  n_bool : mg "bool" = none
  n_dict : mg "dict" = none
  n_enumerate : mg "enumerate" = none
  n_int : mg "int" = none
  n_isinstance : mg "isinstance" = none
  n_len : mg "len" = none
  n_list : mg "list" = none
  n_max : mg "max" = none
  n_min : mg "min" = none
  n_range : mg "range" = none
  n_sorted : mg "sorted" = none
  n_staticmethod : mg "staticmethod" = none
  n_str : mg "str" = none
  n_sum : mg "sum" = none
  n_tuple : mg "tuple" = none
  n_zip : mg "zip" = none
end Lw
namespace Lw
open PySem PySem.Spec PyProof.Rows L2 Evl Wv
section
variable {P : Program} {w : World} {K : PySem.W.Frag} {mg : Str → Option Value} {base : Heap}
/-! ### is_list, is_word -/
abbrev okT (d : Dt) : Prop := (tyD d).isSome = true
theorem ok_is_list (T : Txt P K mg) : FnOk P w K mg base CX0 1 T.a_is_list T.d_is_list ["thing"] (spW K false (R1 okT fun d => .bl (isL d))) := by
  refine T.F_is_list.ok sc_is_list (fun vs H Q E h => w_len 1 h fun _ _ _ ⟨_, e, _⟩ => by rw [e]; rfl) (fun cdv A outer s H vs Q E hr h => ⟨_, PSs.nox (pss_one (ps_ret (pe_callB (u_isinstance K) rfl T.n_isinstance (by decide +kernel) (pa_cons (pv 0) (pa_cons (pe_tup (pa_cons (pe_bltn (v := .ty "list") rfl T.n_list (by decide +kernel) rfl) (pa_cons (pe_bltn (v := .ty "tuple") rfl T.n_tuple (by decide +kernel) rfl) pa_nil))) pa_nil))))), w_start h 1 rfl fun ds P xe ⟨d, e, hd, p⟩ => ?_⟩)
  subst e
  refine ⟨Nat.le_of_ble_eq_true rfl, ?_⟩
  exact wd_ret (et_isLT (et_var rfl ⟨hd, p⟩))
def LET : Str := "abcdefghijklmnopqrstuvwxyz"
def letD : Dt → Bool
  | .str z => match z.cps.toList with
    | [n] => decide (n ∈ LET.cps.toList)
    | _ => false
  | _ => false
def wordD : Dt → Bool
  | .str z => decide (0 < z.length ∧ z.length < 9) && (strD z).all letD
  | _ => false
theorem ok_is_word (T : Txt P K mg) : FnOk P w K mg base CX0 1 T.a_is_word T.d_is_word ["thing"] (spW K false (R1 okT fun d => .bl (wordD d))) := by
  refine T.F_is_word.ok sc_is_word (fun vs H Q E h => w_len 1 h fun _ _ _ ⟨_, e, _⟩ => by rw [e]; rfl) (fun cdv A outer s H vs Q E hr h => ⟨_, PSs.nox (pss_one (ps_ret (pe_and (pe_callB (u_isinstance K) rfl T.n_isinstance (by decide +kernel) (pa_cons (pv 0) (pa_cons (pe_bltn (v := .ty "str") rfl T.n_str (by decide +kernel) rfl) pa_nil))) (pe_and (pe_chain op_lt op_lt pe_int (pe_callB (u_lenA K) rfl T.n_len (by decide +kernel) (pa_cons (pv 0) pa_nil)) pe_int) (pe_one (pe_callB (u_allA K rfl) rfl T.n_all (by decide +kernel) (pa_cons (pe_lc (own := [("sign", 1)]) (g := gName 1) rfl sc_is_word.nd (pi_anyK (K := K) (pv 0)) (blkOk_by (N := ["thing", "sign"]) (sc := defScope s_is_word) (by decide +kernel)) (fun _ _ _ _ _ => (pg_name (i := 1) sc_is_word.nd rfl (Or.inl rfl))) (fun _ _ _ _ _ => pts_nil) (fun _ _ _ _ _ => (pe_cmpR (uInA K (hu64 hr)) (pv 1) (pe_glob (v := .str "abcdefghijklmnopqrstuvwxyz") rfl T.h_LETTERS.choose_spec ⟨_, rfl⟩) (by with_unfolding_all rfl)))) pa_nil))))))), w_start h 2 rfl fun ds P xe ⟨d, e, hd, p⟩ => ?_⟩)
  subst e
  refine ⟨Nat.le_of_ble_eq_true rfl, ?_⟩
  refine wd_ret (et_andV (et_isStr (et_var rfl ⟨hd, ?_⟩)))
  cases d with
  | str z =>
    have p : P (.bl (wordD (.str z))) := p
    have no : (¬ (0 < z.length ∧ z.length < 9)) → P (.bl false) := fun h => by
      have e : wordD (.str z) = false := by unfold wordD; simp [h]
      rw [e] at p
      exact p
    refine bt rfl (et_andV (et_chain rop_lt rop_lt (et_int (et_cb rcl_len (ea_cons (et_var rfl (ea_nil (b2 (fun h1 => et_int (b2 (fun h2 => ?_) fun h2 => ?_)) fun h1 => ?_))))))))
    · have h1 := of_decide_eq_true h1
      have h2 := of_decide_eq_true h2
      refine et_allY letD (ei_seq (et_var rfl ⟨nown_of rfl (by intro d z; cases z), fun d hd => ?_, ?_⟩))
      · obtain ⟨n, _, rfl⟩ := List.mem_map.mp hd
        exact et_op rop_in (et_var rfl (et_str ⟨n, rfl, rfl, rfl⟩))
      · have e : wordD (.str z) = (strD z).all letD := by
          show (decide (0 < z.length ∧ z.length < 9) && (strD z).all letD) = _
          rw [decide_eq_true (show 0 < z.length ∧ z.length < 9 from ⟨by omega, by omega⟩)]
          rfl
        rw [e] at p
        exact p
    · exact no fun h => of_decide_eq_false h2 (by omega)
    · exact bf rfl (no fun h => of_decide_eq_false h1 (by omega))
  | _ => exact bf rfl p
/-! ### is_ground -/
mutual
def pur : Dt → Bool
  | .lst xs => purs xs
  | .tup xs => purs xs
  | .ins _ _ => false
  | .st => false
  | .dtn _ _ => false
  | .dto _ _ _ => false
  | .ob _ _ => false
  | .ad _ => false
  | .opq => false
  | _ => true
def purs : List Dt → Bool
  | [] => true
  | x :: xs => pur x && purs xs
end
theorem pur_mem {x : Dt} : ∀ {xs : List Dt}, purs xs = true → x ∈ xs → pur x = true
  | y :: ys, hp, h => by
    unfold purs at hp
    obtain ⟨h1, h2⟩ := Bool.and_eq_true_iff.mp hp
    rcases List.mem_cons.mp h with e | h
    · rw [e]; exact h1
    · exact pur_mem h2 h
theorem pur_ok {d : Dt} (h : pur d = true) : okT d := by
  cases d <;> first | rfl | (unfold pur at h; cases h)
def grF : Nat → Dt → Bool
  | 0, _ => false
  | n + 1, d => wordD d || match itL d with
    | some ds => decide (2 ≤ ds.length ∧ ds.length ≤ 5) && (wordD (ds.headD .non) && (ds.drop 1).all (grF n))
    | none => false
theorem sl1 (ds : List Dt) : ctD ds (some 1) none = ds.drop 1 := by
  unfold ctD
  cases ds with
  | nil => rfl
  | cons x xs =>
    have e1 : HT.sIx (x :: xs).length 0 (some 1) = 1 := by unfold HT.sIx; simp
    have e2 : HT.sIx (x :: xs).length (x :: xs).length none = (x :: xs).length := rfl
    rw [e1, e2]
    simp
theorem ok_is_ground (T : Txt P K mg) (n : Nat) : FnOk P w K mg base CX0 (n + 1) T.a_is_ground T.d_is_ground ["thing"] (spW K false (R1 (fun d => pur d = true ∧ dep d < n) fun d => .bl (grF n d))) := by
  induction n with
  | zero => exact ⟨fun vs H Q E h => w_len 1 h fun _ _ _ ⟨_, e, _⟩ => by rw [e]; rfl, fun A outer s H args us vs Q E _ _ _ _ h => by obtain ⟨_, _, _, _, _, _, _, _, ⟨_, _, h, _⟩, _⟩ := h; omega⟩
  | succ n ih =>
    refine T.F_is_ground.ok sc_is_ground (fun vs H Q E h => w_len 1 h fun _ _ _ ⟨_, e, _⟩ => by rw [e]; rfl) (fun cdv A outer s H vs Q E hr h => ⟨_, PSs.nox (pss_cons (ps_if (pt_val (pe_call (ok_is_word T) (hr.mono (by omega)) rfl T.g_is_word T.F_is_word.kp T.b_is_word .nil pass0 (pa_cons (pv 0) pa_nil))) (pss_one (ps_ret pe_bl)) pss_nil) (pss_cons (ps_if (PW.pt (pw_or (pt_not (pt_val (pe_call (ok_is_list T) (hr.mono (by omega)) rfl T.g_is_list T.F_is_list.kp T.b_is_list .nil pass0 (pa_cons (pv 0) pa_nil)))) (pw_or (pt_not (pt_chain op_le op_le pe_int (pe_callB (u_lenA K) rfl T.n_len (by decide +kernel) (pa_cons (pv 0) pa_nil)) (pe_op (uAdd K) (pe_glob (v := .int 4) rfl T.h_MOST_PARTS.choose_spec ⟨_, rfl⟩) pe_int))) (pw_or1 (pt_not (pt_val (pe_call (ok_is_word T) (hr.mono (by omega)) rfl T.g_is_word T.F_is_word.kp T.b_is_word .nil pass0 (pa_cons (pe_ix (uIxA K (hu64 hr)) (pv 0) pe_int (fun _ _ => rfl)) pa_nil)))))))) (pss_one (ps_ret pe_bl)) pss_nil) (pss_one (ps_ret (pe_callB (u_allA K rfl) rfl T.n_all (by decide +kernel) (pa_cons (pe_lc (own := [("part", 1)]) (g := gName 1) rfl sc_is_ground.nd (pi_anyK (K := K) (pe_slice (uSlA K) (pv 0) (po_some pe_int) po_none)) (blkOk_by (N := ["thing", "part"]) (sc := defScope s_is_ground) (by decide +kernel)) (fun _ _ _ _ _ => (pg_name (i := 1) sc_is_ground.nd rfl (Or.inl rfl))) (fun _ _ _ _ _ => pts_nil) (fun _ _ _ _ _ => (pe_call ih hr rfl T.g_is_ground T.F_is_ground.kp T.b_is_ground .nil pass0 (pa_cons (pv 1) pa_nil)))) pa_nil)))))), w_start h 2 rfl fun ds P xe ⟨d, e, ⟨hp, hd⟩, p⟩ => ?_⟩)
    subst e
    have p : P (.bl (grF (n + 1) d)) := p
    refine ⟨Nat.le_of_ble_eq_true rfl, ?_⟩
    refine wd_seq (wd_if (eb_B (et_call0 nolk (ea_cons (et_var rfl (ea_nil ⟨d, rfl, pur_ok hp, b2 (fun hw => ?_) fun hw => ?_⟩))))))
    · refine wd_ret (et_bl ?_)
      have e : grF (n + 1) d = true := by unfold grF; rw [hw]; rfl
      rw [e] at p
      exact p
    · have no : itL d = none → P (.bl false) := fun h => by
        have e : grF (n + 1) d = false := by unfold grF; rw [hw, h]; rfl
        rw [e] at p
        exact p
      refine wd_next (wd_seq (wd_if (eb_or (eb_not (eb_B (et_call0 nolk (ea_cons (et_var rfl (ea_nil ⟨d, rfl, pur_ok hp, n2 (fun hl => iteT (wd_ret (et_bl ?_))) fun hl => ?_⟩)))))))))
      · exact no (by cases d <;> first | rfl | cases hl)
      · obtain ⟨xs, hx, hlen, hat, hsl⟩ : ∃ xs, itL d = some xs ∧ (∀ k, fLen [d] k = k (.int xs.length)) ∧ (∀ i k, fIx d (.int i) k = ∃ t, atI xs i = some t ∧ k t) ∧ ∀ k, (fSl (some 1) none d fun t => itS t k) = k (xs.drop 1) := by
          cases d with
          | lst xs => exact ⟨xs, rfl, fun _ => rfl, fun _ _ => rfl, fun k => by show k (ctD xs (some 1) none) = _; rw [sl1]⟩
          | tup xs => exact ⟨xs, rfl, fun _ => rfl, fun _ _ => rfl, fun k => by show k (ctD xs (some 1) none) = _; rw [sl1]⟩
          | _ => cases hl
        have hpx : ∀ x ∈ xs, pur x = true ∧ dep x < n := fun x hm => by
          cases d with
          | lst ys => cases hx; unfold pur at hp; unfold dep at hd; exact ⟨pur_mem hp hm, by have := dep_mem hm; omega⟩
          | tup ys => cases hx; unfold pur at hp; unfold dep at hd; exact ⟨pur_mem hp hm, by have := dep_mem hm; omega⟩
          | _ => cases hx
        have eg : grF (n + 1) d = (decide (2 ≤ xs.length ∧ xs.length ≤ 5) && (wordD (xs.headD .non) && (xs.drop 1).all (grF n))) := by
          unfold grF
          rw [hw, hx]
          rfl
        have no2 : (¬ (2 ≤ xs.length ∧ xs.length ≤ 5)) → P (.bl false) := fun h => by
          rw [eg, decide_eq_false h] at p
          exact p
        refine eb_or (eb_not (eb_test (et_chain rop_le rop_le (et_int (et_cb rcl_len (ea_cons (et_var rfl (ea_nil ?_))))))))
        rw [hlen]
        refine b2 (fun h2 => et_op rop_add (et_int (et_int (n2 (fun h3 => iteT (wd_ret (et_bl ?_))) fun h3 => ?_)))) fun h2 => nf rfl (iteT (wd_ret (et_bl ?_)))
        · exact no2 fun h => of_decide_eq_false h3 (by show (xs.length : Int) ≤ 4 + 1; omega)
        · have h2 := of_decide_eq_true h2
          have h3 : (xs.length : Int) ≤ 4 + 1 := of_decide_eq_true h3
          have h5 : 2 ≤ xs.length ∧ xs.length ≤ 5 := by omega
          rw [decide_eq_true h5, Bool.true_and] at eg
          obtain ⟨x0, xr, rfl⟩ : ∃ x0 xr, xs = x0 :: xr := by
            cases xs with
            | nil => simp at h5
            | cons x0 xr => exact ⟨x0, xr, rfl⟩
          refine eb_not (eb_B (et_call0 nolk (ea_cons (et_op rop_ix (et_var rfl (et_int ?_))))))
          rw [hat]
          refine ⟨x0, at0 _ _, ea_nil ⟨x0, rfl, pur_ok (hpx x0 (List.mem_cons_self ..)).1, n2 (fun hw0 => wd_ret (et_bl ?_)) fun hw0 => ?_⟩⟩
          · have e2 : grF (n + 1) d = false := by rw [eg]; show (wordD x0 && _) = false; rw [hw0]; rfl
            rw [e2] at p
            exact p
          · have e2 : grF (n + 1) d = xr.all (grF n) := by
              rw [eg]
              show (wordD x0 && xr.all (grF n)) = _
              rw [hw0]
              rfl
            rw [e2] at p
            refine wd_next (wd_ret (et_allY (grF n) (ei_seq (et_sl (et_var rfl (eo_some (et_int ⟨1, rfl, eo_none ?_⟩)))))))
            rw [hsl]
            exact ⟨nown_of rfl (by intro d z; cases z), fun x hx => et_call0 nolk (ea_cons (et_var rfl (ea_nil ⟨x, rfl, hpx x (List.mem_cons_of_mem _ hx), rfl, rfl⟩))), p⟩
        · exact no2 fun h => of_decide_eq_false h2 (by omega)
/-! ### as_term -/
/-- a term as it is kept: words, and tuples of a word and terms -/
def asF : Nat → Dt → Dt
  | 0, d => d
  | n + 1, d => match itL d with
    | some (x :: xs) => .tup (x :: xs.map (asF n))
    | _ => d
/-- a ground term, in lists or tuples, of nesting below n -/
inductive GtL : Nat → Dt → Prop where
  | word {n : Nat} {z : Str} (h : wordD (.str z) = true) : GtL (n + 1) (.str z)
  | op {n : Nat} {d : Dt} {z : Str} {xs : List Dt} (h : itL d = some (.str z :: xs)) (hz : wordD (.str z) = true) (h1 : 1 ≤ xs.length ∧ xs.length ≤ 4) (he : ∀ x ∈ xs, GtL n x) : GtL (n + 1) d
theorem itL_sl {d : Dt} {xs : List Dt} (h : itL d = some xs) (k : List Dt → Prop) : (fSl (some 1) none d fun t => itS t k) = k (xs.drop 1) := by
  cases d with
  | lst ys => cases h; show k (ctD xs (some 1) none) = _; rw [sl1]
  | tup ys => cases h; show k (ctD xs (some 1) none) = _; rw [sl1]
  | _ => cases h
theorem ok_as_term (T : Txt P K mg) (n : Nat) : FnOk P w K mg base CX0 (n + 1) T.a_as_term T.d_as_term ["thing"] (spW K false (R1 (GtL n) (asF n))) := by
  induction n with
  | zero => exact ⟨fun vs H Q E h => w_len 1 h fun _ _ _ ⟨_, e, _⟩ => by rw [e]; rfl, fun A outer s H args us vs Q E _ _ _ _ h => by obtain ⟨_, _, _, _, _, _, _, _, ⟨_, _, h, _⟩, _⟩ := h; cases h⟩
  | succ n ih =>
    refine T.F_as_term.ok sc_as_term (fun vs H Q E h => w_len 1 h fun _ _ _ ⟨_, e, _⟩ => by rw [e]; rfl) (fun cdv A outer s H vs Q E hr h => ⟨_, PSs.nox (pss_one (ps_ret (pe_ifExp (pt_val (pe_callB (u_isinstance K) rfl T.n_isinstance (by decide +kernel) (pa_cons (pv 0) (pa_cons (pe_bltn (v := .ty "str") rfl T.n_str (by decide +kernel) rfl) pa_nil)))) (pv 0) (pe_callTy (u_tupA K) rfl T.n_tuple (by decide +kernel) (pa_cons (pe_op (uAdd K) (pe_lst (pa_cons (pe_ix (uIxA K (hu64 hr)) (pv 0) pe_int (fun _ _ => rfl)) pa_nil)) (pe_lc (own := [("part", 1)]) (g := gName 1) rfl sc_as_term.nd (pi_anyK (K := K) (pe_slice (uSlA K) (pv 0) (po_some pe_int) po_none)) (blkOk_by (N := ["thing", "part"]) (sc := defScope s_as_term) (by decide +kernel)) (fun _ _ _ _ _ => (pg_name (i := 1) sc_as_term.nd rfl (Or.inl rfl))) (fun _ _ _ _ _ => pts_nil) (fun _ _ _ _ _ => (pe_call ih hr rfl T.g_as_term T.F_as_term.kp T.b_as_term .nil pass0 (pa_cons (pv 1) pa_nil))))) pa_nil))))), w_start h 2 rfl fun ds P xe ⟨d, e, hg, p⟩ => ?_⟩)
    subst e
    refine ⟨Nat.le_of_ble_eq_true rfl, ?_⟩
    have p : P (asF (n + 1) d) := p
    cases hg with
    | word hw => exact wd_ret (et_if (eb_B (et_isStr (et_var rfl ⟨rfl, bt rfl (et_var rfl p)⟩))))
    | @op _ _ z xs h hz h1 he =>
      obtain ⟨i1, i2, i3⟩ := itL_isS h
      refine wd_ret (et_if (eb_B (et_isStr (et_var rfl ⟨i3, bf i1 ?_⟩))))
      refine et_tuple (et_op rop_add (Ef.et (ef_lst (ea_cons (et_op rop_ix (et_var rfl (et_int ?_)))))))
      rw [itL_ix h]
      refine ⟨.str z, at0 _ _, ea_nil ⟨Nat.le_of_ble_eq_true rfl, Ef.et (ef_mapY (asF n) (ei_seq (et_sl (et_var rfl (eo_some (et_int ⟨1, rfl, eo_none ?_⟩))))))⟩⟩
      rw [itL_sl h]
      refine ⟨nown_of rfl (by intro d z; cases z), fun x hx => et_call0 nolk (ea_cons (et_var rfl (ea_nil ⟨x, rfl, he x hx, rfl, rfl⟩))), ?_⟩
      refine ⟨?_, ?_⟩
      · simp only [List.length_map, List.length_drop, List.length_cons, List.length_nil, Zz]; omega
      · have e : asF (n + 1) d = .tup (.str z :: xs.map (asF n)) := by unfold asF; rw [h]
        rw [e] at p
        exact p
end
end Lw
namespace Lw
open PySem PySem.Spec PyProof.Rows L2 Evl Wv
section
variable {P : Program} {w : World} {K : PySem.W.Frag} {mg : Str → Option Value} {base : Heap}
/-! ### wires -/
theorem nb {A B : Prop} {b : Bool} (h1 : b = true → A) (h2 : b = false → B) : isB (.bl b) fun b => if b = true then A else B := Wv.b2 h1 h2
def inK (kvs : List (Key × Dt)) : Dt → Bool
  | .str q => (dlk kvs (.inr q)).isSome
  | _ => false
def allG : Dt → Bool := fun b => match itL b with
  | some ts => ts.all (grF 9)
  | none => false
def wireF (kvs : List (Key × Dt)) (d : Dt) : Bool := match itL d with
  | some [a, b] => inK kvs a && allG b
  | _ => false
theorem itL_mem {d : Dt} {xs : List Dt} (h : itL d = some xs) (hp : pur d = true) : ∀ x ∈ xs, pur x = true ∧ dep x < dep d := fun x hm => by
  cases d with
  | lst ys => cases h; unfold pur at hp; exact ⟨pur_mem hp hm, by rw [dep_lst]; have := dep_mem hm; omega⟩
  | tup ys => cases h; unfold pur at hp; exact ⟨pur_mem hp hm, by rw [dep_tup]; have := dep_mem hm; omega⟩
  | _ => cases h
theorem ok_is_wire (T : Txt P K mg) : FnOk P w K mg base CX0 11 T.a_is_wire T.d_is_wire ["thing", "boxes"] (spW K false fun ds P _ => ∃ d kvs, ds = [d, .dct kvs] ∧ (pur d = true ∧ dep d < 10) ∧ P (.bl (wireF kvs d))) := by
  refine T.F_is_wire.ok sc_is_wire (fun vs H Q E h => w_len 2 h fun _ _ _ ⟨_, _, e, _⟩ => by rw [e]; rfl) (fun cdv A outer s H vs Q E hr h => ⟨_, PSs.nox (pss_cons (ps_if (PW.pt (pw_or (pt_not (pt_val (pe_call (ok_is_list T) (hr.mono (by omega)) rfl T.g_is_list T.F_is_list.kp T.b_is_list .nil pass0 (pa_cons (pv 0) pa_nil)))) (pw_or (pt_cmpR (uNe K (hu64 hr)) (pe_callB (u_lenA K) rfl T.n_len (by decide +kernel) (pa_cons (pv 0) pa_nil)) pe_int (nomark _)) (pw_or (pt_not (pt_val (pe_callB (u_isinstance K) rfl T.n_isinstance (by decide +kernel) (pa_cons (pe_ix (uIxA K (hu64 hr)) (pv 0) pe_int (fun _ _ => rfl)) (pa_cons (pe_bltn (v := .ty "str") rfl T.n_str (by decide +kernel) rfl) pa_nil))))) (pw_or1 (pt_cmpR (uNiA K (hu64 hr)) (pe_ix (uIxA K (hu64 hr)) (pv 0) pe_int (fun _ _ => rfl)) (pv 1) (by with_unfolding_all rfl))))))) (pss_one (ps_ret pe_bl)) pss_nil) (pss_one (ps_ret (pe_and (pe_call (ok_is_list T) (hr.mono (by omega)) rfl T.g_is_list T.F_is_list.kp T.b_is_list .nil pass0 (pa_cons (pe_ix (uIxA K (hu64 hr)) (pv 0) pe_int (fun _ _ => rfl)) pa_nil)) (pe_one (pe_callB (u_allA K rfl) rfl T.n_all (by decide +kernel) (pa_cons (pe_lc (own := [("term", 2)]) (g := gName 2) rfl sc_is_wire.nd (pi_anyK (K := K) (pe_ix (uIxA K (hu64 hr)) (pv 0) pe_int (fun _ _ => rfl))) (blkOk_by (N := ["thing", "boxes", "term"]) (sc := defScope s_is_wire) (by decide +kernel)) (fun _ _ _ _ _ => (pg_name (i := 2) sc_is_wire.nd rfl (Or.inl rfl))) (fun _ _ _ _ _ => pts_nil) (fun _ _ _ _ _ => (pe_call (ok_is_ground T 9) hr rfl T.g_is_ground T.F_is_ground.kp T.b_is_ground .nil pass0 (pa_cons (pv 2) pa_nil)))) pa_nil))))))), w_start h 3 rfl fun ds P xe ⟨d, kvs, e, ⟨hp, hd⟩, p⟩ => ?_⟩)
  subst e
  refine ⟨Nat.le_of_ble_eq_true rfl, ?_⟩
  refine wd_seq (wd_if (eb_or (eb_not (eb_B (et_call0 nolk (ea_cons (et_var rfl (ea_nil ⟨d, rfl, pur_ok hp, n2 (fun hl => iteT (wd_ret (et_bl ?_))) fun hl => ?_⟩))))))))
  · have e : wireF kvs d = false := by unfold wireF; rw [isL_no hl]
    rw [e] at p
    exact p
  · obtain ⟨xs, h⟩ := isL_it hl
    have hm := itL_mem h hp
    refine eb_or (eb_test (et_op rop_ne (et_cb rcl_len (ea_cons (et_var rfl (ea_nil ?_))))))
    rw [itL_len h]
    refine et_int (v2 (fun h2 => iteT (wd_ret (et_bl ?_))) fun h2 => ?_)
    · have e : wireF kvs d = false := by
        unfold wireF
        rw [h]
        match xs, h2 with
        | [], _ => rfl
        | [_], _ => rfl
        | [_, _], h2 => cases h2
        | _ :: _ :: _ :: _, _ => rfl
      rw [e] at p
      exact p
    · have h2 : xs.length = 2 := by have := of_decide_eq_true h2; omega
      obtain ⟨a, b, rfl⟩ : ∃ a b, xs = [a, b] := by
        match xs, h2 with
        | [a, b], _ => exact ⟨a, b, rfl⟩
      have ew : wireF kvs d = (inK kvs a && allG b) := by unfold wireF; rw [h]
      rw [ew] at p
      have ha := hm a (by simp)
      have hb := hm b (by simp)
      have rest : inK kvs a = true → Wd ⟨K, E, xe, false, []⟩ [.v d, .v (.dct kvs), .no] (tRet (tAndV (tCall (spW K false (R1 okT fun d => .bl (isL d))) [] E0 (tCons (tOp (rIxA K) (tVar 0) (tC (.int 1))) tNil)) (tCB (rAll K) (tCons (tLc (iAny K (tOp (rIxA K) (tVar 0) (tC (.int 1)))) (gName 2) tYes (tCall (spW K false (R1 (fun d => pur d = true ∧ dep d < 9) fun d => .bl (grF 9 d))) [] E0 (tCons (tVar 2) tNil)) [2]) tNil)))) { nx := fun _ => P .non, rt := P } := fun hk => by
        rw [hk, Bool.true_and] at p
        refine wd_ret (et_andV (et_call0 nolk (ea_cons (et_op rop_ix (et_var rfl (et_int ?_))))))
        rw [itL_ix h]
        refine ⟨b, rfl, ea_nil ⟨b, rfl, pur_ok hb.1, Wv.b2 (fun hl2 => ?_) fun hl2 => ?_⟩⟩
        · obtain ⟨ts, h3⟩ := isL_it hl2
          have hm3 := itL_mem h3 hb.1
          refine et_allY (grF 9) (ei_seq (et_op rop_ix (et_var rfl (et_int ?_))))
          rw [itL_ix h]
          refine ⟨b, rfl, ?_⟩
          rw [itL_it h3]
          refine ⟨nown_of rfl (by intro d z; cases z), fun x hx => et_call0 nolk (ea_cons (et_var rfl (ea_nil ⟨x, rfl, ⟨(hm3 x hx).1, by have := (hm3 x hx).2; omega⟩, rfl, rfl⟩))), ?_⟩
          have e : allG b = ts.all (grF 9) := by unfold allG; rw [h3]
          rw [e] at p
          exact p
        · have e : allG b = false := by unfold allG; rw [isL_no hl2]
          rw [e] at p
          exact p
      refine eb_or (eb_not (eb_B (et_isStr (et_op rop_ix (et_var rfl (et_int ?_))))))
      rw [itL_ix h]
      refine ⟨a, rfl, pur_ok ha.1, n2 (fun hs => iteT (wd_ret (et_bl ?_))) fun hs => ?_⟩
      · have e : inK kvs a = false := by cases a <;> first | rfl | cases hs
        rw [e] at p
        exact p
      · obtain ⟨q, rfl⟩ : ∃ q, a = .str q := by
          cases a with
          | str q => exact ⟨q, rfl⟩
          | _ => cases hs
        refine eb_test (et_op rop_ni (et_op rop_ix (et_var rfl (et_int ?_))))
        rw [itL_ix h]
        refine ⟨.str q, rfl, et_var rfl (v2 (fun hk => wd_ret (et_bl ?_)) fun hk => wd_next (rest hk))⟩
        rw [show inK kvs (.str q) = false from hk] at p
        exact p
end
end Lw
namespace Lw
open PySem PySem.Spec PyProof.Rows L2 Evl Wv
set_option hygiene false in
local macro_rules
  | `(tactic| nofun) => `(tactic| repeat' (first | (with_reducible show Et _ _ _ _; first | with_reducible refine et_popAt (by with_unfolding_all rfl) ?_ | with_reducible refine et_var (by with_unfolding_all rfl) ?_ | with_reducible refine et_int ?_ | with_reducible refine et_str ?_ | with_reducible refine et_bl ?_ | with_reducible refine et_non ?_ | with_reducible refine et_andV ?_ | with_reducible refine et_orV ?_ | with_reducible refine et_notV ?_ | with_reducible refine et_if ?_ | with_reducible refine et_isStr ?_ | with_reducible refine et_isInt ?_ | with_reducible refine et_isBool ?_ | with_reducible refine et_isDict ?_ | with_reducible refine et_isList ?_ | with_reducible refine et_isTuple ?_ | with_reducible refine et_isLT ?_ | with_reducible refine et_tup ?_ | with_reducible refine et_neg ?_ | with_reducible refine et_ixO (by with_unfolding_all rfl) ?_ | with_reducible refine et_opL (by first | exact rop_ix | exact rop_eq | exact rop_ne | exact rop_in | exact rop_ni | exact rop_add | exact rop_sub | exact rop_mul | exact rop_lt | exact rop_le | exact rop_gt | exact rop_ge | exact rop_mod | exact rop_div | exact rop_isN | exact rop_notN) (by with_unfolding_all rfl) ?_ | with_reducible refine et_opRo (by first | exact rop_ix | exact rop_eq | exact rop_ne | exact rop_in | exact rop_ni | exact rop_add | exact rop_sub | exact rop_mul | exact rop_lt | exact rop_le | exact rop_gt | exact rop_ge | exact rop_mod | exact rop_div | exact rop_isN | exact rop_notN) (by with_unfolding_all rfl) ?_ | with_reducible refine et_op (by first | exact rop_ix | exact rop_eq | exact rop_ne | exact rop_in | exact rop_ni | exact rop_add | exact rop_sub | exact rop_mul | exact rop_lt | exact rop_le | exact rop_gt | exact rop_ge | exact rop_mod | exact rop_div | exact rop_isN | exact rop_notN) ?_ | with_reducible refine et_cbO (by first | exact rcl_len | exact rcl_int | exact rcl_sum | exact rcl_max | exact rcl_min | exact rcl_all | exact rcl_any) (by with_unfolding_all rfl) ?_ | with_reducible refine et_cb (by first | exact rcl_len | exact rcl_int | exact rcl_sum | exact rcl_max | exact rcl_min | exact rcl_all | exact rcl_any) ?_ | with_reducible refine et_chain (by first | exact rop_ix | exact rop_eq | exact rop_ne | exact rop_in | exact rop_ni | exact rop_add | exact rop_sub | exact rop_mul | exact rop_lt | exact rop_le | exact rop_gt | exact rop_ge | exact rop_mod | exact rop_div | exact rop_isN | exact rop_notN) (by first | exact rop_ix | exact rop_eq | exact rop_ne | exact rop_in | exact rop_ni | exact rop_add | exact rop_sub | exact rop_mul | exact rop_lt | exact rop_le | exact rop_gt | exact rop_ge | exact rop_mod | exact rop_div | exact rop_isN | exact rop_notN) ?_ | with_reducible refine et_dget2 ?_ | with_reducible refine et_call0 nolk ?_ | with_reducible refine et_call0 samelk ?_ | with_reducible refine et_sl ?_) | (with_reducible show Wd _ _ _ _; first | with_reducible refine wd_seq ?_ | with_reducible refine wd_if ?_ | with_reducible refine wd_ret ?_ | with_reducible refine wd_next ?_ | with_reducible refine wd_raise ?_) | (with_reducible show Ea _ _ _ _; first | with_reducible refine ea_nil ?_ | with_reducible refine ea_cons ?_) | (with_reducible show Eb _ _ _ _; first | with_reducible refine eb_or ?_ | with_reducible refine eb_and ?_ | with_reducible refine eb_not ?_ | with_reducible refine eb_B ?_ | with_reducible refine eb_test ?_) | (with_reducible show Eo _ _ _ _; first | with_reducible refine eo_none ?_ | with_reducible refine eo_some ?_) | with_reducible refine isTyI (by first | with_unfolding_all rfl | assumption | exact pur_ok (by assumption)) ?_ | with_reducible refine iteT ?_ | with_reducible refine iteF ?_ | with_reducible refine bt (by first | with_unfolding_all rfl | assumption) ?_ | with_reducible refine bf (by first | with_unfolding_all rfl | assumption) ?_ | with_reducible refine nt (by first | with_unfolding_all rfl | assumption) ?_ | with_reducible refine nf (by first | with_unfolding_all rfl | assumption) ?_ | with_reducible refine fin_s ?_ | with_reducible refine fni_s ?_ | with_reducible refine fx0 (by first | with_unfolding_all rfl | assumption) ?_ | with_reducible refine fx1 (by first | with_unfolding_all rfl | assumption) ?_ | with_reducible refine fx2 (by first | with_unfolding_all rfl | assumption) ?_ | with_reducible refine fxlen (by first | with_unfolding_all rfl | assumption) ?_ | with_reducible refine fxit (by first | with_unfolding_all rfl | assumption) ?_ | with_reducible refine feq_i ?_ | with_reducible refine feq_s ?_ | with_reducible refine fne_i ?_ | with_reducible refine fne_s ?_ | with_reducible refine r1_i (by first | with_unfolding_all rfl | assumption | exact pur_ok (by assumption)) ?_ | with_reducible refine sclI (by with_unfolding_all rfl) ?_ | with_reducible refine lenI (by with_unfolding_all rfl) ?_ | with_reducible refine eI ?_))
section
variable {P : Program} {w : World} {K : PySem.W.Frag} {mg : Str → Option Value} {base : Heap}
/-! ### as_wire -/
/-- a wire as it is kept -/
def aswF (d : Dt) : Dt := match itL d with
  | some [a, b] => match itL b with
    | some ts => .tup [a, .lst (ts.map (asF 9))]
    | none => d
  | _ => d
theorem grF_gt : ∀ {n : Nat} {d : Dt}, grF n d = true → GtL n d
  | 0, _, h => nomatch h
  | n + 1, d, h => by
    unfold grF at h
    cases hw : wordD d with
    | true =>
      cases d with
      | str z => exact .word hw
      | _ => cases hw
    | false =>
      rw [hw, Bool.false_or] at h
      cases e : itL d with
      | none => rw [e] at h; cases h
      | some ds =>
        rw [e] at h
        simp only [Bool.and_eq_true, decide_eq_true_eq] at h
        obtain ⟨h1, h2, h3⟩ := h
        match ds, h1 with
        | x :: xs, h1 =>
          have h2 : wordD x = true := h2
          cases x with
          | str z => exact .op e h2 (by simp only [List.length_cons] at h1; omega) fun y hy => grF_gt (List.all_eq_true.mp h3 y hy)
          | _ => cases h2
theorem wireF_inv {kvs : List (Key × Dt)} {d : Dt} (h : wireF kvs d = true) : ∃ q b ts, itL d = some [.str q, b] ∧ (dlk kvs (.inr q)).isSome = true ∧ itL b = some ts ∧ ∀ x ∈ ts, grF 9 x = true := by
  unfold wireF at h
  cases e : itL d with
  | none => rw [e] at h; cases h
  | some xs =>
    rw [e] at h
    match xs, h with
    | [a, b], h =>
      obtain ⟨h1, h2⟩ := Bool.and_eq_true_iff.mp h
      cases a with
      | str q =>
        unfold allG at h2
        cases e2 : itL b with
        | none => rw [e2] at h2; cases h2
        | some ts => rw [e2] at h2; exact ⟨q, b, ts, rfl, h1, e2, fun x hx => List.all_eq_true.mp h2 x hx⟩
      | _ => cases h1
theorem ok_as_wire (T : Txt P K mg) : FnOk P w K mg base CX0 11 T.a_as_wire T.d_as_wire ["thing"] (spW K false (R1 (fun d => ∃ kvs, wireF kvs d = true) aswF)) := by
  refine T.F_as_wire.ok sc_as_wire (fun vs H Q E h => w_len 1 h fun _ _ _ ⟨_, e, _⟩ => by rw [e]; rfl) (fun cdv A outer s H vs Q E hr h => ⟨_, PSs.nox (pss_one (ps_ret (pe_tup (pa_cons (pe_ix (uIxA K (hu64 hr)) (pv 0) pe_int (fun _ _ => rfl)) (pa_cons (pe_lc (own := [("term", 1)]) (g := gName 1) rfl sc_as_wire.nd (pi_anyK (K := K) (pe_ix (uIxA K (hu64 hr)) (pv 0) pe_int (fun _ _ => rfl))) (blkOk_by (N := ["thing", "term"]) (sc := defScope s_as_wire) (by decide +kernel)) (fun _ _ _ _ _ => (pg_name (i := 1) sc_as_wire.nd rfl (Or.inl rfl))) (fun _ _ _ _ _ => pts_nil) (fun _ _ _ _ _ => (pe_call (ok_as_term T 9) hr rfl T.g_as_term T.F_as_term.kp T.b_as_term .nil pass0 (pa_cons (pv 1) pa_nil)))) pa_nil))))), w_start h 2 rfl fun ds P xe ⟨d, e, ⟨kvs, hw⟩, p⟩ => ?_⟩)
  subst e
  obtain ⟨q, b, ts, h1, _, h2, h3⟩ := wireF_inv hw
  refine ⟨Nat.le_of_ble_eq_true rfl, ?_⟩
  have ea : aswF d = .tup [.str q, .lst (ts.map (asF 9))] := by unfold aswF; rw [h1]; show (match itL b with | some ts => _ | none => _) = _; rw [h2]
  rw [ea] at p
  nofun
  refine Ef.et (ef_mapY (asF 9) (ei_seq ?_))
  nofun
  refine ⟨nown_no rfl, fun x hx => ?_, ?_⟩
  · nofun
    exact r1_i (grF_gt (h3 x hx)) ⟨rfl, rfl⟩
  · nofun
    exact p
/-! ### is_box -/
/-- what is_box tells -/
def boxF (kvs ws : List (Key × Dt)) (d : Dt) : Bool := match itL d with
  | some [a, b] => isS a && (wordD b && eqF a (.str "in"))
  | some [a, f, c] => isS a && (wordD f && (eqF a (.str "op") && match itL c with
    | some l => decide (1 ≤ l.length ∧ l.length ≤ 4) && (l.all (wireF kvs) && match f with
      | .str z => eqF ((dlk ws (.inr z)).getD (.int l.length)) (.int l.length)
      | _ => false)
    | none => false))
  | _ => false
theorem ok_is_box (T : Txt P K mg) : FnOk P w K mg base CX0 12 T.a_is_box T.d_is_box ["thing", "boxes", "wires_of"] (spW K false fun ds P _ => ∃ d kvs ws, ds = [d, .dct kvs, .dct ws] ∧ (pur d = true ∧ dep d < 12) ∧ (∀ k t, dlk ws k = some t → ∃ i, t = .int i) ∧ P (.bl (boxF kvs ws d))) := by
  refine T.F_is_box.ok sc_is_box (fun vs H Q E h => w_len 3 h fun _ _ _ ⟨_, _, _, e, _⟩ => by rw [e]; rfl) (fun cdv A outer s H vs Q E hr h => ⟨_, PSs.nox (pss_cons (ps_if (PW.pt (pw_or (pt_not (pt_val (pe_call (ok_is_list T) (hr.mono (by omega)) rfl T.g_is_list T.F_is_list.kp T.b_is_list .nil pass0 (pa_cons (pv 0) pa_nil)))) (pw_or (pt_cmpR (uNiA K (hu64 hr)) (pe_callB (u_lenA K) rfl T.n_len (by decide +kernel) (pa_cons (pv 0) pa_nil)) (pe_tup (pa_cons pe_int (pa_cons pe_int pa_nil))) (by with_unfolding_all rfl)) (pw_or (pt_not (pt_val (pe_callB (u_isinstance K) rfl T.n_isinstance (by decide +kernel) (pa_cons (pe_ix (uIxA K (hu64 hr)) (pv 0) pe_int (fun _ _ => rfl)) (pa_cons (pe_bltn (v := .ty "str") rfl T.n_str (by decide +kernel) rfl) pa_nil))))) (pw_or1 (pt_not (pt_val (pe_call (ok_is_word T) (hr.mono (by omega)) rfl T.g_is_word T.F_is_word.kp T.b_is_word .nil pass0 (pa_cons (pe_ix (uIxA K (hu64 hr)) (pv 0) pe_int (fun _ _ => rfl)) pa_nil))))))))) (pss_one (ps_ret pe_bl)) pss_nil) (pss_cons (ps_if (pt_cmpR (uEq K (hu64 hr)) (pe_callB (u_lenA K) rfl T.n_len (by decide +kernel) (pa_cons (pv 0) pa_nil)) pe_int (nomark _)) (pss_one (ps_ret (pe_cmpR (uEq K (hu64 hr)) (pe_ix (uIxA K (hu64 hr)) (pv 0) pe_int (fun _ _ => rfl)) pe_str (nomark _)))) pss_nil) (pss_cons (ps_if (PW.pt (pw_or (pt_cmpR (uNe K (hu64 hr)) (pe_ix (uIxA K (hu64 hr)) (pv 0) pe_int (fun _ _ => rfl)) pe_str (nomark _)) (pw_or (pt_not (pt_val (pe_call (ok_is_list T) (hr.mono (by omega)) rfl T.g_is_list T.F_is_list.kp T.b_is_list .nil pass0 (pa_cons (pe_ix (uIxA K (hu64 hr)) (pv 0) pe_int (fun _ _ => rfl)) pa_nil)))) (pw_or1 (pt_not (pt_chain op_le op_le pe_int (pe_callB (u_lenA K) rfl T.n_len (by decide +kernel) (pa_cons (pe_ix (uIxA K (hu64 hr)) (pv 0) pe_int (fun _ _ => rfl)) pa_nil)) (pe_glob (v := .int 4) rfl T.h_MOST_WIRES.choose_spec ⟨_, rfl⟩))))))) (pss_one (ps_ret pe_bl)) pss_nil) (pss_one (ps_ret (pe_and (pe_callB (u_allA K rfl) rfl T.n_all (by decide +kernel) (pa_cons (pe_lc (own := [("wire", 3)]) (g := gName 3) rfl sc_is_box.nd (pi_anyK (K := K) (pe_ix (uIxA K (hu64 hr)) (pv 0) pe_int (fun _ _ => rfl))) (blkOk_by (N := ["thing", "boxes", "wires_of", "wire"]) (sc := defScope s_is_box) (by decide +kernel)) (fun _ _ _ _ _ => (pg_name (i := 3) sc_is_box.nd rfl (Or.inl rfl))) (fun _ _ _ _ _ => pts_nil) (fun _ _ _ _ _ => (pe_call (ok_is_wire T) (hr.mono (by omega)) rfl T.g_is_wire T.F_is_wire.kp T.b_is_wire .nil pass0 (pa_cons (pv 3) (pa_cons (pv 1) pa_nil))))) pa_nil)) (pe_one (pe_cmpR (uEq K (hu64 hr)) (pe_dget2 (hu_of hr) (pv 2) (pe_ix (uIxA K (hu64 hr)) (pv 0) pe_int (fun _ _ => rfl)) (pe_callB (u_lenA K) rfl T.n_len (by decide +kernel) (pa_cons (pe_ix (uIxA K (hu64 hr)) (pv 0) pe_int (fun _ _ => rfl)) pa_nil)) ⟨rfl, rfl, rfl, rfl⟩) (pe_callB (u_lenA K) rfl T.n_len (by decide +kernel) (pa_cons (pe_ix (uIxA K (hu64 hr)) (pv 0) pe_int (fun _ _ => rfl)) pa_nil)) (nomark _))))))))), w_start h 4 rfl fun ds P xe ⟨d, kvs, ws, e, ⟨hp, hd⟩, hws, p⟩ => ?_⟩)
  subst e
  refine ⟨Nat.le_of_ble_eq_true rfl, ?_⟩
  refine wd_seq (wd_if (eb_or (eb_not (eb_B (et_call0 nolk (ea_cons (et_var rfl (ea_nil ⟨d, rfl, pur_ok hp, n2 (fun hl => iteT (wd_ret (et_bl ?_))) fun hl => ?_⟩))))))))
  · have e : boxF kvs ws d = false := by unfold boxF; rw [isL_no hl]
    rw [e] at p
    exact p
  obtain ⟨xs, h⟩ := isL_it hl
  have hm := itL_mem h hp
  refine eb_or (eb_test (et_op rop_ni (et_cb rcl_len (ea_cons (et_var rfl (ea_nil ?_))))))
  rw [itL_len h]
  refine et_tup (ea_cons (et_int (ea_cons (et_int (ea_nil ⟨by decide, rfl, rfl, ?_⟩)))))
  have ein : ([Dt.int 2, Dt.int 3].any fun e => eqF e (.int xs.length)) = (decide (xs.length = 2) || decide (xs.length = 3)) := by
    show ((2 == (xs.length : Int)) || ((3 == (xs.length : Int)) || false)) = _
    rw [Bool.or_false]
    have e2 : ((2 : Int) == (xs.length : Int)) = decide (xs.length = 2) := by
      by_cases z : xs.length = 2
      · rw [z]; rfl
      · rw [decide_eq_false z]; exact beq_eq_false_iff_ne.mpr (by omega)
    have e3 : ((3 : Int) == (xs.length : Int)) = decide (xs.length = 3) := by
      by_cases z : xs.length = 3
      · rw [z]; rfl
      · rw [decide_eq_false z]; exact beq_eq_false_iff_ne.mpr (by omega)
    rw [e2, e3]
  rw [ein]
  refine v2 (fun hn => iteT (wd_ret (et_bl ?_))) fun hn => ?_
  · have e : boxF kvs ws d = false := by
      unfold boxF
      rw [h]
      match xs, hn with
      | [], _ => rfl
      | [_], _ => rfl
      | [_, _], hn => cases hn
      | [_, _, _], hn => cases hn
      | _ :: _ :: _ :: _ :: _, _ => rfl
    rw [e] at p
    exact p
  obtain ⟨a, f, r, rfl, hr3⟩ : ∃ a f r, xs = a :: f :: r ∧ (r = [] ∨ ∃ c, r = [c]) := by
    match xs, hn with
    | [], hn => cases hn
    | [_], hn => cases hn
    | [a, f], _ => exact ⟨a, f, [], rfl, .inl rfl⟩
    | [a, f, c], _ => exact ⟨a, f, [c], rfl, .inr ⟨c, rfl⟩⟩
    | _ :: _ :: _ :: _ :: _, hn => simp at hn
  have ha := hm a (by simp)
  have hf := hm f (by simp)
  have bb : ∀ {X Y : Bool}, boxF kvs ws d = (isS a && (wordD f && X)) → (isS a = false ∨ wordD f = false) → P (.bl false) := fun e h => by
    rw [e] at p
    rcases h with h | h
    · rw [h] at p; exact p
    · rw [h, Bool.false_and, Bool.and_false] at p; exact p
  have bx : ∃ X, boxF kvs ws d = (isS a && (wordD f && X)) := by
    rcases hr3 with rfl | ⟨c, rfl⟩
    · exact ⟨_, by unfold boxF; rw [h]⟩
    · exact ⟨_, by unfold boxF; rw [h]⟩
  obtain ⟨X, bx⟩ := bx
  refine eb_or (eb_not (eb_B (et_isStr (et_op rop_ix (et_var rfl (et_int ?_))))))
  rw [itL_ix h]
  refine ⟨a, at0 _ _, pur_ok ha.1, n2 (fun hs => iteT (wd_ret (et_bl (bb (Y := true) bx (.inl hs))))) fun hs => ?_⟩
  refine eb_not (eb_B (et_call0 nolk (ea_cons (et_op rop_ix (et_var rfl (et_int ?_))))))
  rw [itL_ix h]
  refine ⟨f, at1 _ _ _, ea_nil ⟨f, rfl, pur_ok hf.1, n2 (fun hw => wd_ret (et_bl (bb (Y := true) bx (.inr hw)))) fun hw => wd_next ?_⟩⟩
  obtain ⟨q, rfl⟩ : ∃ q, a = .str q := by
    cases a with
    | str q => exact ⟨q, rfl⟩
    | _ => cases hs
  obtain ⟨z, rfl⟩ : ∃ z, f = .str z := by
    cases f with
    | str z => exact ⟨z, rfl⟩
    | _ => cases hw
  refine wd_seq (wd_if (eb_test (et_op rop_eq (et_cb rcl_len (ea_cons (et_var rfl (ea_nil ?_)))))))
  rw [itL_len h]
  rcases hr3 with rfl | ⟨c, rfl⟩
  · refine et_int (bt rfl (wd_ret (et_op rop_eq (et_op rop_ix (et_var rfl (et_int ?_))))))
    rw [itL_ix h]
    refine ⟨.str q, rfl, et_str ?_⟩
    have e : boxF kvs ws d = decide (q = "in") := by
      unfold boxF
      rw [h]
      show (true && (wordD (.str z) && (q == "in"))) = _
      rw [hw, Bool.true_and, Bool.true_and]
      rfl
    rw [e] at p
    exact p
  refine et_int (bf rfl (wd_next (wd_seq (wd_if (eb_or (eb_test (et_op rop_ne (et_op rop_ix (et_var rfl (et_int ?_))))))))))
  rw [itL_ix h]
  have hc := hm c (by simp)
  have eb : boxF kvs ws d = (decide (q = "op") && match itL c with
    | some l => decide (1 ≤ l.length ∧ l.length ≤ 4) && (l.all (wireF kvs) && eqF ((dlk ws (.inr z)).getD (.int l.length)) (.int l.length))
    | none => false) := by
    unfold boxF
    rw [h]
    show (true && (wordD (.str z) && ((q == "op") && _))) = _
    rw [hw, Bool.true_and, Bool.true_and]
    rfl
  refine ⟨.str q, rfl, et_str (v2 (fun ho => iteT (wd_ret (et_bl ?_))) fun ho => ?_)⟩
  · rw [eb, ho] at p
    exact p
  rw [ho, Bool.true_and] at eb
  refine eb_or (eb_not (eb_B (et_call0 nolk (ea_cons (et_op rop_ix (et_var rfl (et_int ?_)))))))
  rw [itL_ix h]
  refine ⟨c, rfl, ea_nil ⟨c, rfl, pur_ok hc.1, n2 (fun hcl => iteT (wd_ret (et_bl ?_))) fun hcl => ?_⟩⟩
  · rw [eb, isL_no hcl] at p
    exact p
  obtain ⟨l, h3⟩ := isL_it hcl
  have hm3 := itL_mem h3 hc.1
  rw [h3] at eb
  refine eb_not (eb_test (et_chain rop_le rop_le (et_int (et_cb rcl_len (ea_cons (et_op rop_ix (et_var rfl (et_int ?_))))))))
  rw [itL_ix h]
  refine ⟨c, rfl, ea_nil ?_⟩
  rw [itL_len h3]
  have no : ¬ (1 ≤ l.length ∧ l.length ≤ 4) → P (.bl false) := fun hn => by
    rw [eb] at p
    have p : P (.bl (decide (1 ≤ l.length ∧ l.length ≤ 4) && (l.all (wireF kvs) && eqF ((dlk ws (.inr z)).getD (.int l.length)) (.int l.length)))) := p
    rw [decide_eq_false hn] at p
    exact p
  refine Wv.b2 (fun h1 => et_int (n2 (fun h4 => wd_ret (et_bl (no fun hh => of_decide_eq_false h4 (by show (l.length : Int) ≤ 4; omega)))) fun h4 => wd_next ?_)) fun h1 => nf rfl (wd_ret (et_bl (no fun hh => of_decide_eq_false h1 (by omega))))
  have h1 := of_decide_eq_true h1
  have h4 : (l.length : Int) ≤ 4 := of_decide_eq_true h4
  have eb : boxF kvs ws d = (l.all (wireF kvs) && eqF ((dlk ws (.inr z)).getD (.int l.length)) (.int l.length)) := by
    rw [eb]
    show (decide (1 ≤ l.length ∧ l.length ≤ 4) && _) = _
    rw [decide_eq_true ⟨by omega, by omega⟩, Bool.true_and]
  rw [eb] at p
  refine wd_ret (et_andV (et_allY (wireF kvs) (ei_seq (et_op rop_ix (et_var rfl (et_int ?_))))))
  rw [itL_ix h]
  refine ⟨c, rfl, ?_⟩
  rw [itL_it h3]
  refine ⟨nown_of rfl (by intro d z; cases z), fun x hx => et_call0 nolk (ea_cons (et_var rfl (ea_cons (et_var rfl (ea_nil ⟨x, kvs, rfl, ⟨(hm3 x hx).1, by have := (hm3 x hx).2; omega⟩, rfl, rfl⟩))))), Wv.b2 (fun hall => ?_) fun hall => ?_⟩
  · rw [hall, Bool.true_and] at p
    refine et_op rop_eq (et_dget2 (et_var rfl ⟨ws, rfl, et_op rop_ix (et_var rfl (et_int ?_))⟩))
    rw [itL_ix h]
    refine ⟨.str z, rfl, et_cb rcl_len (ea_cons (et_op rop_ix (et_var rfl (et_int ?_))))⟩
    rw [itL_ix h]
    refine ⟨c, rfl, ea_nil ?_⟩
    rw [itL_len h3]
    show Et _ _ _ _
    refine et_cb rcl_len (ea_cons (et_op rop_ix (et_var rfl (et_int ?_))))
    rw [itL_ix h]
    refine ⟨c, rfl, ea_nil ?_⟩
    rw [itL_len h3]
    obtain ⟨m, hmm⟩ : ∃ m, (dlk ws (.inr z)).getD (.int l.length) = .int m := by
      cases e : dlk ws (.inr z) with
      | none => exact ⟨_, rfl⟩
      | some t => obtain ⟨i, rfl⟩ := hws _ _ e; exact ⟨i, rfl⟩
    rw [hmm] at p ⊢
    have e : eqF (.int m) (.int l.length) = decide (m = l.length) := rfl
    rw [e] at p
    exact p
  · rw [hall] at p
    exact p
end
end Lw
namespace Lw
open PySem PySem.Spec PyProof.Rows L2 Evl Wv
set_option hygiene false in
local macro_rules
  | `(tactic| nofun) => `(tactic| repeat' (first | (with_reducible show Et _ _ _ _; first | with_reducible refine et_popAt (by with_unfolding_all rfl) ?_ | with_reducible refine et_var (by with_unfolding_all rfl) ?_ | with_reducible refine et_int ?_ | with_reducible refine et_str ?_ | with_reducible refine et_bl ?_ | with_reducible refine et_non ?_ | with_reducible refine et_andV ?_ | with_reducible refine et_orV ?_ | with_reducible refine et_notV ?_ | with_reducible refine et_if ?_ | with_reducible refine et_isStr ?_ | with_reducible refine et_isInt ?_ | with_reducible refine et_isBool ?_ | with_reducible refine et_isDict ?_ | with_reducible refine et_isList ?_ | with_reducible refine et_isTuple ?_ | with_reducible refine et_isLT ?_ | with_reducible refine et_tup ?_ | with_reducible refine et_neg ?_ | with_reducible refine et_ixO (by with_unfolding_all rfl) ?_ | with_reducible refine et_opL (by first | exact rop_ix | exact rop_eq | exact rop_ne | exact rop_in | exact rop_ni | exact rop_add | exact rop_sub | exact rop_mul | exact rop_lt | exact rop_le | exact rop_gt | exact rop_ge | exact rop_mod | exact rop_div | exact rop_isN | exact rop_notN) (by with_unfolding_all rfl) ?_ | with_reducible refine et_opRo (by first | exact rop_ix | exact rop_eq | exact rop_ne | exact rop_in | exact rop_ni | exact rop_add | exact rop_sub | exact rop_mul | exact rop_lt | exact rop_le | exact rop_gt | exact rop_ge | exact rop_mod | exact rop_div | exact rop_isN | exact rop_notN) (by with_unfolding_all rfl) ?_ | with_reducible refine et_op (by first | exact rop_ix | exact rop_eq | exact rop_ne | exact rop_in | exact rop_ni | exact rop_add | exact rop_sub | exact rop_mul | exact rop_lt | exact rop_le | exact rop_gt | exact rop_ge | exact rop_mod | exact rop_div | exact rop_isN | exact rop_notN) ?_ | with_reducible refine et_cbO (by first | exact rcl_len | exact rcl_int | exact rcl_sum | exact rcl_max | exact rcl_min | exact rcl_all | exact rcl_any) (by with_unfolding_all rfl) ?_ | with_reducible refine et_cb (by first | exact rcl_len | exact rcl_int | exact rcl_sum | exact rcl_max | exact rcl_min | exact rcl_all | exact rcl_any) ?_ | with_reducible refine et_chain (by first | exact rop_ix | exact rop_eq | exact rop_ne | exact rop_in | exact rop_ni | exact rop_add | exact rop_sub | exact rop_mul | exact rop_lt | exact rop_le | exact rop_gt | exact rop_ge | exact rop_mod | exact rop_div | exact rop_isN | exact rop_notN) (by first | exact rop_ix | exact rop_eq | exact rop_ne | exact rop_in | exact rop_ni | exact rop_add | exact rop_sub | exact rop_mul | exact rop_lt | exact rop_le | exact rop_gt | exact rop_ge | exact rop_mod | exact rop_div | exact rop_isN | exact rop_notN) ?_ | with_reducible refine et_dget2 ?_ | with_reducible refine et_call0 nolk ?_ | with_reducible refine et_call0 samelk ?_ | with_reducible refine et_sl ?_) | (with_reducible show Wd _ _ _ _; first | with_reducible refine wd_seq ?_ | with_reducible refine wd_if ?_ | with_reducible refine wd_ret ?_ | with_reducible refine wd_next ?_ | with_reducible refine wd_raise ?_) | (with_reducible show Ea _ _ _ _; first | with_reducible refine ea_nil ?_ | with_reducible refine ea_cons ?_) | (with_reducible show Eb _ _ _ _; first | with_reducible refine eb_or ?_ | with_reducible refine eb_and ?_ | with_reducible refine eb_not ?_ | with_reducible refine eb_B ?_ | with_reducible refine eb_test ?_) | (with_reducible show Eo _ _ _ _; first | with_reducible refine eo_none ?_ | with_reducible refine eo_some ?_) | with_reducible refine isTyI (by first | with_unfolding_all rfl | assumption | exact pur_ok (by assumption)) ?_ | with_reducible refine iteT ?_ | with_reducible refine iteF ?_ | with_reducible refine bt (by first | with_unfolding_all rfl | assumption) ?_ | with_reducible refine bf (by first | with_unfolding_all rfl | assumption) ?_ | with_reducible refine nt (by first | with_unfolding_all rfl | assumption) ?_ | with_reducible refine nf (by first | with_unfolding_all rfl | assumption) ?_ | with_reducible refine fin_s ?_ | with_reducible refine fni_s ?_ | with_reducible refine fx0 (by first | with_unfolding_all rfl | assumption) ?_ | with_reducible refine fx1 (by first | with_unfolding_all rfl | assumption) ?_ | with_reducible refine fx2 (by first | with_unfolding_all rfl | assumption) ?_ | with_reducible refine fxlen (by first | with_unfolding_all rfl | assumption) ?_ | with_reducible refine fxit (by first | with_unfolding_all rfl | assumption) ?_ | with_reducible refine feq_i ?_ | with_reducible refine feq_s ?_ | with_reducible refine fne_i ?_ | with_reducible refine fne_s ?_ | with_reducible refine r1_i (by first | with_unfolding_all rfl | assumption | exact pur_ok (by assumption)) ?_ | with_reducible refine sclI (by with_unfolding_all rfl) ?_ | with_reducible refine lenI (by with_unfolding_all rfl) ?_ | with_reducible refine eI ?_))
section
variable {P : Program} {w : World} {K : PySem.W.Frag} {mg : Str → Option Value} {base : Heap}
/-! ### as_box -/
/-- a box as it is kept -/
def asbF (d : Dt) : Dt := match itL d with
  | some [a, b] => .tup [a, b]
  | some [_, f, c] => match itL c with
    | some l => .tup [.str "op", f, .lst (l.map aswF)]
    | none => d
  | _ => d
/-- what a box is -/
theorem boxF_inv {kvs ws : List (Key × Dt)} {d : Dt} (h : boxF kvs ws d = true) : (∃ z, itL d = some [.str "in", .str z] ∧ wordD (.str z) = true) ∨ ∃ z c l, itL d = some [.str "op", .str z, c] ∧ wordD (.str z) = true ∧ itL c = some l ∧ (1 ≤ l.length ∧ l.length ≤ 4) ∧ (∀ x ∈ l, wireF kvs x = true) ∧
    eqF ((dlk ws (.inr z)).getD (.int l.length)) (.int l.length) = true := by
  unfold boxF at h
  cases e : itL d with
  | none => rw [e] at h; cases h
  | some xs =>
    rw [e] at h
    match xs, h with
    | [a, b], h =>
      simp only [Bool.and_eq_true] at h
      obtain ⟨h1, h2, h3⟩ := h
      obtain ⟨q, rfl⟩ : ∃ q, a = .str q := by cases a <;> first | exact ⟨_, rfl⟩ | cases h1
      obtain ⟨z, rfl⟩ : ∃ z, b = .str z := by cases b <;> first | exact ⟨_, rfl⟩ | cases h2
      have : q = "in" := eq_of_beq h3
      subst this
      exact .inl ⟨z, rfl, h2⟩
    | [a, f, c], h =>
      simp only [Bool.and_eq_true] at h
      obtain ⟨h1, h2, h3, h4⟩ := h
      obtain ⟨q, rfl⟩ : ∃ q, a = .str q := by cases a <;> first | exact ⟨_, rfl⟩ | cases h1
      obtain ⟨z, rfl⟩ : ∃ z, f = .str z := by cases f <;> first | exact ⟨_, rfl⟩ | cases h2
      have : q = "op" := eq_of_beq h3
      subst this
      cases e2 : itL c with
      | none => rw [e2] at h4; cases h4
      | some l =>
        rw [e2] at h4
        simp only [Bool.and_eq_true, decide_eq_true_eq] at h4
        exact .inr ⟨z, c, l, rfl, h2, e2, h4.1, fun x hx => List.all_eq_true.mp h4.2.1 x hx, h4.2.2⟩
theorem asbF_in {d : Dt} {z : Str} (h : itL d = some [.str "in", .str z]) : asbF d = .tup [.str "in", .str z] := by unfold asbF; rw [h]
theorem asbF_op {d c : Dt} {z : Str} {l : List Dt} (h : itL d = some [.str "op", .str z, c]) (hc : itL c = some l) : asbF d = .tup [.str "op", .str z, .lst (l.map aswF)] := by
  unfold asbF
  rw [h]
  show (match itL c with | some ts => _ | none => _) = _
  rw [hc]
theorem ok_as_box (T : Txt P K mg) : FnOk P w K mg base CX0 12 T.a_as_box T.d_as_box ["thing"] (spW K false (R1 (fun d => ∃ kvs ws, boxF kvs ws d = true) asbF)) := by
  refine T.F_as_box.ok sc_as_box (fun vs H Q E h => w_len 1 h fun _ _ _ ⟨_, e, _⟩ => by rw [e]; rfl) (fun cdv A outer s H vs Q E hr h => ⟨_, PSs.nox (pss_one (ps_ret (pe_ifExp (pt_cmpR (uEq K (hu64 hr)) (pe_callB (u_lenA K) rfl T.n_len (by decide +kernel) (pa_cons (pv 0) pa_nil)) pe_int (nomark _)) (pe_callTy (u_tupA K) rfl T.n_tuple (by decide +kernel) (pa_cons (pv 0) pa_nil)) (pe_tup (pa_cons pe_str (pa_cons (pe_ix (uIxA K (hu64 hr)) (pv 0) pe_int (fun _ _ => rfl)) (pa_cons (pe_lc (own := [("wire", 1)]) (g := gName 1) rfl sc_as_box.nd (pi_anyK (K := K) (pe_ix (uIxA K (hu64 hr)) (pv 0) pe_int (fun _ _ => rfl))) (blkOk_by (N := ["thing", "wire"]) (sc := defScope s_as_box) (by decide +kernel)) (fun _ _ _ _ _ => (pg_name (i := 1) sc_as_box.nd rfl (Or.inl rfl))) (fun _ _ _ _ _ => pts_nil) (fun _ _ _ _ _ => (pe_call (ok_as_wire T) (hr.mono (by omega)) rfl T.g_as_wire T.F_as_wire.kp T.b_as_wire .nil pass0 (pa_cons (pv 1) pa_nil)))) pa_nil))))))), w_start h 2 rfl fun ds P xe ⟨d, e, ⟨kvs, ws, hb⟩, p⟩ => ?_⟩)
  subst e
  refine ⟨Nat.le_of_ble_eq_true rfl, ?_⟩
  have p : P (asbF d) := p
  rcases boxF_inv hb with ⟨z, h, hz⟩ | ⟨z, c, l, h, hz, hc, hl, hw, _⟩
  · have ea := asbF_in h
    rw [ea] at p
    nofun
    refine et_tuple ?_
    nofun
    cases d with
    | lst xs => cases h; exact p
    | tup xs => cases h; exact p
    | _ => cases h
  · have ea := asbF_op h hc
    rw [ea] at p
    nofun
    refine Ef.et (ef_mapY aswF (ei_seq ?_))
    nofun
    refine ⟨nown_no rfl, fun x hx => ?_, ?_⟩
    · nofun
      exact r1_i ⟨kvs, hw x hx⟩ ⟨rfl, rfl⟩
    · nofun
      exact p
end
end Lw
namespace Lw
open PySem PySem.Spec PyProof.Rows L2 Evl Wv
set_option hygiene false in
local macro_rules
  | `(tactic| nofun) => `(tactic| repeat' (first | (with_reducible show Et _ _ _ _; first | with_reducible refine et_popAt (by with_unfolding_all rfl) ?_ | with_reducible refine et_var (by with_unfolding_all rfl) ?_ | with_reducible refine et_int ?_ | with_reducible refine et_str ?_ | with_reducible refine et_bl ?_ | with_reducible refine et_non ?_ | with_reducible refine et_andV ?_ | with_reducible refine et_orV ?_ | with_reducible refine et_notV ?_ | with_reducible refine et_if ?_ | with_reducible refine et_isStr ?_ | with_reducible refine et_isInt ?_ | with_reducible refine et_isBool ?_ | with_reducible refine et_isDict ?_ | with_reducible refine et_isList ?_ | with_reducible refine et_isTuple ?_ | with_reducible refine et_isLT ?_ | with_reducible refine et_tup ?_ | with_reducible refine et_neg ?_ | with_reducible refine et_ixO (by with_unfolding_all rfl) ?_ | with_reducible refine et_opL (by first | exact rop_ix | exact rop_eq | exact rop_ne | exact rop_in | exact rop_ni | exact rop_add | exact rop_sub | exact rop_mul | exact rop_lt | exact rop_le | exact rop_gt | exact rop_ge | exact rop_mod | exact rop_div | exact rop_isN | exact rop_notN) (by with_unfolding_all rfl) ?_ | with_reducible refine et_opRo (by first | exact rop_ix | exact rop_eq | exact rop_ne | exact rop_in | exact rop_ni | exact rop_add | exact rop_sub | exact rop_mul | exact rop_lt | exact rop_le | exact rop_gt | exact rop_ge | exact rop_mod | exact rop_div | exact rop_isN | exact rop_notN) (by with_unfolding_all rfl) ?_ | with_reducible refine et_op (by first | exact rop_ix | exact rop_eq | exact rop_ne | exact rop_in | exact rop_ni | exact rop_add | exact rop_sub | exact rop_mul | exact rop_lt | exact rop_le | exact rop_gt | exact rop_ge | exact rop_mod | exact rop_div | exact rop_isN | exact rop_notN) ?_ | with_reducible refine et_cbO (by first | exact rcl_len | exact rcl_int | exact rcl_sum | exact rcl_max | exact rcl_min | exact rcl_all | exact rcl_any) (by with_unfolding_all rfl) ?_ | with_reducible refine et_cb (by first | exact rcl_len | exact rcl_int | exact rcl_sum | exact rcl_max | exact rcl_min | exact rcl_all | exact rcl_any) ?_ | with_reducible refine et_chain (by first | exact rop_ix | exact rop_eq | exact rop_ne | exact rop_in | exact rop_ni | exact rop_add | exact rop_sub | exact rop_mul | exact rop_lt | exact rop_le | exact rop_gt | exact rop_ge | exact rop_mod | exact rop_div | exact rop_isN | exact rop_notN) (by first | exact rop_ix | exact rop_eq | exact rop_ne | exact rop_in | exact rop_ni | exact rop_add | exact rop_sub | exact rop_mul | exact rop_lt | exact rop_le | exact rop_gt | exact rop_ge | exact rop_mod | exact rop_div | exact rop_isN | exact rop_notN) ?_ | with_reducible refine et_dget2 ?_ | with_reducible refine et_call0 nolk ?_ | with_reducible refine et_call0 samelk ?_ | with_reducible refine et_sl ?_) | (with_reducible show Wd _ _ _ _; first | with_reducible refine wd_seq ?_ | with_reducible refine wd_if ?_ | with_reducible refine wd_ret ?_ | with_reducible refine wd_next ?_ | with_reducible refine wd_raise ?_) | (with_reducible show Ea _ _ _ _; first | with_reducible refine ea_nil ?_ | with_reducible refine ea_cons ?_) | (with_reducible show Eb _ _ _ _; first | with_reducible refine eb_or ?_ | with_reducible refine eb_and ?_ | with_reducible refine eb_not ?_ | with_reducible refine eb_B ?_ | with_reducible refine eb_test ?_) | (with_reducible show Eo _ _ _ _; first | with_reducible refine eo_none ?_ | with_reducible refine eo_some ?_) | with_reducible refine isTyI (by first | with_unfolding_all rfl | assumption | exact pur_ok (by assumption)) ?_ | with_reducible refine iteT ?_ | with_reducible refine iteF ?_ | with_reducible refine bt (by first | with_unfolding_all rfl | assumption) ?_ | with_reducible refine bf (by first | with_unfolding_all rfl | assumption) ?_ | with_reducible refine nt (by first | with_unfolding_all rfl | assumption) ?_ | with_reducible refine nf (by first | with_unfolding_all rfl | assumption) ?_ | with_reducible refine fin_s ?_ | with_reducible refine fni_s ?_ | with_reducible refine fx0 (by first | with_unfolding_all rfl | assumption) ?_ | with_reducible refine fx1 (by first | with_unfolding_all rfl | assumption) ?_ | with_reducible refine fx2 (by first | with_unfolding_all rfl | assumption) ?_ | with_reducible refine fxlen (by first | with_unfolding_all rfl | assumption) ?_ | with_reducible refine fxit (by first | with_unfolding_all rfl | assumption) ?_ | with_reducible refine feq_i ?_ | with_reducible refine feq_s ?_ | with_reducible refine fne_i ?_ | with_reducible refine fne_s ?_ | with_reducible refine r1_i (by first | with_unfolding_all rfl | assumption | exact pur_ok (by assumption)) ?_ | with_reducible refine sclI (by with_unfolding_all rfl) ?_ | with_reducible refine lenI (by with_unfolding_all rfl) ?_ | with_reducible refine eI ?_))
section
variable {P : Program} {w : World} {K : PySem.W.Frag} {mg : Str → Option Value} {base : Heap}
/-! ### wires_of_box -/
/-- the wires of a kept box -/
def wobF (d : Dt) : Dt := match itL d with
  | some [_, _, c] => c
  | _ => .lst []
/-- a kept box -/
def kBox (d : Dt) : Prop := (∃ z, d = .tup [.str "in", .str z]) ∨ ∃ z l, d = .tup [.str "op", .str z, .lst l]
theorem ok_wires_of_box (T : Txt P K mg) : FnOk P w K mg base CX0 2 T.a_wires_of_box T.d_wires_of_box ["box"] (spW K false (R1 kBox wobF)) := by
  refine T.F_wires_of_box.ok sc_wires_of_box (fun vs H Q E h => w_len 1 h fun _ _ _ ⟨_, e, _⟩ => by rw [e]; rfl) (fun cdv A outer s H vs Q E hr h => ⟨_, PSs.nox (pss_one (ps_ret (pe_ifExp (pt_cmpR (uEq K (hu64 hr)) (pe_ix (uIxA K (hu64 hr)) (pv 0) pe_int (fun _ _ => rfl)) pe_str (nomark _)) (pe_lst pa_nil) (pe_ix (uIxA K (hu64 hr)) (pv 0) pe_int (fun _ _ => rfl))))), w_start h 1 rfl fun ds P xe ⟨d, e, hb, p⟩ => ?_⟩)
  subst e
  refine ⟨Nat.le_of_ble_eq_true rfl, ?_⟩
  rcases hb with ⟨z, rfl⟩ | ⟨z, l, rfl⟩
  · nofun
    refine Ef.et (ef_lst ?_)
    nofun
    exact p
  · nofun
    exact p
/-! ### checked_boxes -/
def keyD : Dt → Key
  | .int i => .inl i
  | .str z => .inr z
  | _ => .inl 0
theorem keyD_k (k : Key) : keyD (kDt k) = k := by cases k <;> rfl
/-- the names of some boxes -/
def nmF (kvs : List (Key × Dt)) : List (Key × Dt) := ((kvs.map fun kv => kDt kv.1).filter wordD).foldl (fun a k => dpt a (keyD k) (.bl true)) []
/-- what is known of ops' wires behind a box -/
def wsF (ws : List (Key × Dt)) (b : Dt) : List (Key × Dt) := match b with
  | .tup [_, .str z, .lst l] => dpt ws (.inr z) (.int l.length)
  | _ => ws
/-- boxes one by one: the first odd name, or all as they are kept -/
def chkB (nm kvs : List (Key × Dt)) : List Dt → List (Key × Dt) → List (Key × Dt) → Sum Dt (List (Key × Dt))
  | [], f, _ => .inr f
  | k :: ks, f, ws => if wordD k = true ∧ boxF nm ws ((dlk kvs (keyD k)).getD .non) = true then
      chkB nm kvs ks (dpt f (keyD k) (asbF ((dlk kvs (keyD k)).getD .non))) (wsF ws (asbF ((dlk kvs (keyD k)).getD .non)))
    else .inl k
/-- a dict that may be checked -/
structure PreB (n : Nat) (kvs : List (Key × Dt)) : Prop where
  sz : kvs.length < Zz
  ks : ∀ kv ∈ kvs, ∀ z, kv.1 = .inr z → z.length ≤ Zz
  pv : ∀ kv ∈ kvs, pur kv.2 = true ∧ dep kv.2 < n
theorem ok_checked_boxes (T : Txt P K mg) : FnOk P w K mg base (L2.CX P w) 13 T.a_checked_boxes T.d_checked_boxes ["boxes"] (spW K true fun ds P xe => ∃ d, ds = [d] ∧ ((∃ kvs, d = .dct kvs ∧ PreB 12 kvs ∧ match chkB (nmF kvs) kvs (kvs.map fun kv => kDt kv.1) [] [] with
    | .inr f => P (.dct f)
    | .inl k => xe T.c_BadBox [("name", k)]) ∨ isDc d = false ∧ okT d ∧ xe T.c_BadBoxes [("thing", d)])) := by
  refine T.F_checked_boxes.ok sc_checked_boxes (fun vs H Q E h => w_len 1 h fun _ _ _ ⟨_, e, _⟩ => by rw [e]; rfl) (fun cdv A outer s H vs Q E hr h => ⟨_, (pss_cons (ps_if (pt_not (pt_val (pe_callB (u_isinstance K) rfl T.n_isinstance (by decide +kernel) (pa_cons (pv 0) (pa_cons (pe_bltn (v := .ty "dict") rfl T.n_dict (by decide +kernel) rfl) pa_nil))))) (pss_one (ps_raiseW rfl (takes_of rfl rfl rfl rfl) (pmk_sx (k := 0) T.X_BadBoxes (hr.mono (by omega)) T.g_BadBoxes (ExcC.ra T.e_BadBoxes T.X_BadBoxes) (pa_cons (pv 0) pa_nil)))) pss_nil) (pss_cons (ps_setDc (i := 2) (own := [("name", 1)]) (g := gName 1) rfl sc_checked_boxes.nd rfl rfl (sw_dc rfl rfl rfl rfl) (pi_anyK (K := K) (pv 0)) (blkOk_by (N := ["boxes", "name", "names", "wires_of", "found"]) (sc := defScope s_checked_boxes) (by decide +kernel)) (fun _ _ _ _ _ => (pg_name (i := 1) sc_checked_boxes.nd rfl (Or.inl rfl))) (fun _ _ _ _ _ => (pts_one (pt_val (pe_call (ok_is_word T) (hr.mono (by omega)) rfl T.g_is_word T.F_is_word.kp T.b_is_word .nil pass0 (pa_cons (pv 1) pa_nil))))) (fun _ _ _ _ _ => (pv 1)) (fun _ _ _ _ _ => pe_bl)) (pss_cons (ps_par (i := 3) (j := 4) rfl sc_checked_boxes.nd rfl rfl (by decide) rfl rfl (pa_cons pe_dnewK (pa_cons pe_dnewK pa_nil)) rfl rfl) (pss_cons (ps_for (passes_of rfl) rfl (pi_anyK (K := K) (pv 0)) (pg_name (i := 1) sc_checked_boxes.nd rfl (Or.inl rfl)) (pss_cons (ps_if (PW.pt (pw_or (pt_not (pt_val (pe_call (ok_is_word T) (hr.mono (by omega)) rfl T.g_is_word T.F_is_word.kp T.b_is_word .nil pass0 (pa_cons (pv 1) pa_nil)))) (pw_or1 (pt_not (pt_val (pe_call (ok_is_box T) (hr.mono (by omega)) rfl T.g_is_box T.F_is_box.kp T.b_is_box .nil pass0 (pa_cons (pe_ix (uIxA K (hu64 hr)) (pv 0) (pv 1) (fun _ _ => rfl)) (pa_cons (pv 2) (pa_cons (pv 3) pa_nil))))))))) (pss_one (ps_raiseW rfl (takes_of rfl rfl rfl rfl) (pmk_sx (k := 0) T.X_BadBox (hr.mono (by omega)) T.g_BadBox (ExcC.ra T.e_BadBox T.X_BadBox) (pa_cons (pv 1) pa_nil)))) pss_nil) (pss_cons (ps_dput (hu_of hr) (pv 4) (pv 1) (pe_call (ok_as_box T) (hr.mono (by omega)) rfl T.g_as_box T.F_as_box.kp T.b_as_box .nil pass0 (pa_cons (pe_ix (uIxA K (hu64 hr)) (pv 0) (pv 1) (fun _ _ => rfl)) pa_nil)) rfl) (pss_one (ps_if (pt_cmpR (uEq K (hu64 hr)) (pe_ix (uIxA K (hu64 hr)) (pe_ix (uIxA K (hu64 hr)) (pv 4) (pv 1) (fun _ _ => rfl)) pe_int (fun _ _ => rfl)) pe_str (nomark _)) (pss_one (ps_dput (hu_of hr) (pv 3) (pe_ix (uIxA K (hu64 hr)) (pe_ix (uIxA K (hu64 hr)) (pv 4) (pv 1) (fun _ _ => rfl)) pe_int (fun _ _ => rfl)) (pe_callB (u_lenA K) rfl T.n_len (by decide +kernel) (pa_cons (pe_ix (uIxA K (hu64 hr)) (pe_ix (uIxA K (hu64 hr)) (pv 4) (pv 1) (fun _ _ => rfl)) pe_int (fun _ _ => rfl)) pa_nil)) rfl)) pss_nil))))) (pss_one (ps_ret (pv 4))))))), w_start h 5 rfl fun ds P xe ⟨d, e, hp⟩ => ?_⟩)
  subst e
  refine ⟨Nat.le_of_ble_eq_true rfl, ?_⟩
  rcases hp with ⟨kvs, rfl, hk, hp⟩ | ⟨hd, ho, hp⟩
  · have keys : ∀ (i : Nat) d, (kvs.map fun kv => kDt kv.1)[i]? = some d → ∃ k v, d = kDt k ∧ keyD d = k ∧ dlk kvs k = some v ∧ pur v = true ∧ dep v < 12 := fun i d h => by
      rw [List.getElem?_map] at h
      cases e : kvs[i]? with
      | none => rw [e] at h; cases h
      | some q =>
        rw [e] at h
        cases h
        obtain ⟨v, hv⟩ := dlk_some (List.mem_of_getElem? e)
        obtain ⟨h1, h2⟩ := hk.pv _ (dlk_mem hv)
        exact ⟨q.1, v, rfl, keyD_k _, hv, h1, h2⟩
    nofun
    refine wd_asg (Ef.et (ef_dc (ei_any rfl ?_)))
    nofun
    refine ⟨hk.ks, nown_no rfl, fun i acc => acc = (((kvs.map fun kv => kDt kv.1).take i).filter wordD).foldl (fun a k => dpt a (keyD k) (.bl true)) [], rfl, fun i d acc hi hI => ?_, fun acc hI => ?_⟩
    · obtain ⟨k, v, rfl, hkk, _⟩ := keys i d hi
      have ht : (kvs.map fun kv => kDt kv.1).take (i + 1) = (kvs.map fun kv => kDt kv.1).take i ++ [kDt k] := by rw [List.take_add_one, hi]; rfl
      nofun
      refine r1_i (okT_k k) ?_
      rw [isB_bl]
      refine ⟨rfl, ?_⟩
      dsimp only at hI ⊢
      rw [ht, List.filter_append, List.foldl_append, ← hI]
      cases hw : wordD (kDt k) with
      | false =>
        refine iteF ?_
        rw [List.filter_cons_of_neg (by rw [hw]; intro z; cases z)]
        rfl
      | true =>
        refine iteT ?_
        nofun
        refine ⟨rfl, ?_⟩
        rw [List.filter_cons_of_pos hw]
        cases k with
        | inl j => cases hw
        | inr z =>
          show Et _ _ _ _
          nofun
          exact ⟨rfl, rfl⟩
    dsimp only at hI ⊢
    rw [List.take_length] at hI
    subst hI
    refine wd_seq (wd_parOO (ef_dnew (ef_dnew ?_)))
    refine wd_seq (wd_for (ei_any rfl (et_var rfl ⟨hk.ks, ?_⟩)))
    refine ⟨fun i e => ∃ (s : Sl) (f ws : List (Key × Dt)), e = [.v (.dct kvs), s, .v (.dct (nmF kvs)), .own (.dct ws), .own (.dct f)] ∧ f.length ≤ i ∧ ws.length ≤ i ∧ (∀ k t, dlk ws k = some t → ∃ i, t = .int i) ∧
      chkB (nmF kvs) kvs ((kvs.map fun kv => kDt kv.1).drop i) f ws = chkB (nmF kvs) kvs (kvs.map fun kv => kDt kv.1) [] [], ?_, ?_, ?_⟩
    · exact ⟨.no, [], [], rfl, Nat.le_refl _, Nat.le_refl _, fun k t (h : none = some t) => (nomatch h), rfl⟩
    · intro i d e hi hI
      obtain ⟨s, f, ws, rfl, hf, hw, hws, hc⟩ := hI
      obtain ⟨k, v, rfl, hkk, hv, hp1, hp2⟩ := keys i d hi
      have hlt : i < kvs.length := by have := (List.getElem?_eq_some_iff.mp hi).1; rw [List.length_map] at this; exact this
      have hsz := hk.sz
      have hd : (kvs.map fun kv => kDt kv.1).drop i = kDt k :: (kvs.map fun kv => kDt kv.1).drop (i + 1) := by
        rw [List.getElem?_eq_some_iff] at hi
        obtain ⟨h1, h2⟩ := hi
        rw [← h2, List.drop_eq_getElem_cons h1]
      rw [hd] at hc
      have hc : (if wordD (kDt k) = true ∧ boxF (nmF kvs) ws ((dlk kvs (keyD (kDt k))).getD .non) = true then chkB (nmF kvs) kvs ((kvs.map fun kv => kDt kv.1).drop (i + 1)) (dpt f (keyD (kDt k)) (asbF ((dlk kvs (keyD (kDt k))).getD .non))) (wsF ws (asbF ((dlk kvs (keyD (kDt k))).getD .non))) else .inl (kDt k)) = _ := hc
      rw [hkk, hv] at hc
      have hc : (if wordD (kDt k) = true ∧ boxF (nmF kvs) ws v = true then chkB (nmF kvs) kvs ((kvs.map fun kv => kDt kv.1).drop (i + 1)) (dpt f k (asbF v)) (wsF ws (asbF v)) else .inl (kDt k)) = _ := hc
      have odd : ¬ (wordD (kDt k) = true ∧ boxF (nmF kvs) ws v = true) → xe T.c_BadBox [("name", kDt k)] := fun h => by
        rw [if_neg h] at hc
        rw [← hc] at hp
        exact hp
      refine tg_name ?_
      nofun
      refine r1_i (okT_k k) (n2 (fun h => ?_) fun h => ?_)
      · nofun
        exact ⟨_, rfl, odd fun z => by rw [h] at z; cases z.1⟩
      obtain ⟨z, rfl⟩ : ∃ z, k = .inr z := by
        cases k with
        | inl j => cases h
        | inr z => exact ⟨z, rfl⟩
      refine eb_peek ?_
      nofun
      refine ⟨v, hv, ?_⟩
      nofun
      refine ⟨v, _, _, rfl, ⟨hp1, hp2⟩, hws, n2 (fun h2 => ?_) fun h2 => ?_⟩
      · nofun
        exact ⟨_, rfl, odd fun z => by rw [h2] at z; cases z.2⟩
      rw [if_pos ⟨h, h2⟩] at hc
      nofun
      refine wd_dput ?_
      nofun
      refine ⟨v, hv, ?_⟩
      nofun
      refine r1_i ⟨_, _, h2⟩ ⟨_, rfl, ?_⟩
      nofun
      have hfz : f.length < Zz := by omega
      have hwz : ws.length < Zz := by omega
      refine ⟨f, rfl, hfz, ?_⟩
      have hl1 : (dpt f (.inr z) (asbF v)).length ≤ i + 1 := Nat.le_trans (dpt_len _ _ _) (by omega)
      have hg : dlk (dpt f (.inr z) (asbF v)) (.inr z) = some (asbF v) := by rw [dlk_dpt, if_pos rfl]
      rcases boxF_inv h2 with ⟨z', h3, h4⟩ | ⟨z', c, l, h3, h4, h5, h6, _⟩
      · have ea := asbF_in h3
        rw [ea] at hc hg hl1 ⊢
        nofun
        refine ⟨_, rfl, _, hg, ?_⟩
        nofun
        exact ⟨_, _, _, rfl, hl1, by omega, hws, hc⟩
      · have ea := asbF_op h3 h5
        rw [ea] at hc hg hl1 ⊢
        nofun
        refine ⟨_, rfl, _, hg, ?_⟩
        nofun
        refine wd_dput ?_
        nofun
        refine ⟨_, rfl, _, hg, ?_⟩
        nofun
        refine ⟨_, rfl, ?_⟩
        nofun
        refine ⟨_, rfl, _, hg, ?_⟩
        nofun
        refine ⟨_, rfl, hwz, _, _, _, rfl, hl1, Nat.le_trans (dpt_len _ _ _) (by omega), fun k t h => ?_, hc⟩
        rw [dlk_dpt] at h
        split at h
        · cases h
          exact ⟨_, rfl⟩
        · exact hws k t h
    · intro e hI
      obtain ⟨s, f, ws, rfl, hf, hw, hws, hc⟩ := hI
      rw [List.drop_length] at hc
      rw [← hc] at hp
      exact wd_ret (et_own rfl hp)
  · nofun
    exact ⟨_, rfl, hp⟩
end
end Lw
namespace Lw
open PySem PySem.Spec PyProof.Rows L2 Evl Wv
set_option hygiene false in
local macro_rules
  | `(tactic| nofun) => `(tactic| repeat' (first | (with_reducible show Et _ _ _ _; first | with_reducible refine et_popAt (by with_unfolding_all rfl) ?_ | with_reducible refine et_var (by with_unfolding_all rfl) ?_ | with_reducible refine et_int ?_ | with_reducible refine et_str ?_ | with_reducible refine et_bl ?_ | with_reducible refine et_non ?_ | with_reducible refine et_andV ?_ | with_reducible refine et_orV ?_ | with_reducible refine et_notV ?_ | with_reducible refine et_if ?_ | with_reducible refine et_isStr ?_ | with_reducible refine et_isInt ?_ | with_reducible refine et_isBool ?_ | with_reducible refine et_isDict ?_ | with_reducible refine et_isList ?_ | with_reducible refine et_isTuple ?_ | with_reducible refine et_isLT ?_ | with_reducible refine et_tup ?_ | with_reducible refine et_neg ?_ | with_reducible refine et_ixO (by with_unfolding_all rfl) ?_ | with_reducible refine et_opL (by first | exact rop_ix | exact rop_eq | exact rop_ne | exact rop_in | exact rop_ni | exact rop_add | exact rop_sub | exact rop_mul | exact rop_lt | exact rop_le | exact rop_gt | exact rop_ge | exact rop_mod | exact rop_div | exact rop_isN | exact rop_notN) (by with_unfolding_all rfl) ?_ | with_reducible refine et_opRo (by first | exact rop_ix | exact rop_eq | exact rop_ne | exact rop_in | exact rop_ni | exact rop_add | exact rop_sub | exact rop_mul | exact rop_lt | exact rop_le | exact rop_gt | exact rop_ge | exact rop_mod | exact rop_div | exact rop_isN | exact rop_notN) (by with_unfolding_all rfl) ?_ | with_reducible refine et_op (by first | exact rop_ix | exact rop_eq | exact rop_ne | exact rop_in | exact rop_ni | exact rop_add | exact rop_sub | exact rop_mul | exact rop_lt | exact rop_le | exact rop_gt | exact rop_ge | exact rop_mod | exact rop_div | exact rop_isN | exact rop_notN) ?_ | with_reducible refine et_cbO (by first | exact rcl_len | exact rcl_int | exact rcl_sum | exact rcl_max | exact rcl_min | exact rcl_all | exact rcl_any) (by with_unfolding_all rfl) ?_ | with_reducible refine et_cb (by first | exact rcl_len | exact rcl_int | exact rcl_sum | exact rcl_max | exact rcl_min | exact rcl_all | exact rcl_any) ?_ | with_reducible refine et_chain (by first | exact rop_ix | exact rop_eq | exact rop_ne | exact rop_in | exact rop_ni | exact rop_add | exact rop_sub | exact rop_mul | exact rop_lt | exact rop_le | exact rop_gt | exact rop_ge | exact rop_mod | exact rop_div | exact rop_isN | exact rop_notN) (by first | exact rop_ix | exact rop_eq | exact rop_ne | exact rop_in | exact rop_ni | exact rop_add | exact rop_sub | exact rop_mul | exact rop_lt | exact rop_le | exact rop_gt | exact rop_ge | exact rop_mod | exact rop_div | exact rop_isN | exact rop_notN) ?_ | with_reducible refine et_dget2 ?_ | with_reducible refine et_call0 nolk ?_ | with_reducible refine et_call0 samelk ?_ | with_reducible refine et_sl ?_) | (with_reducible show Wd _ _ _ _; first | with_reducible refine wd_seq ?_ | with_reducible refine wd_if ?_ | with_reducible refine wd_ret ?_ | with_reducible refine wd_next ?_ | with_reducible refine wd_raise ?_) | (with_reducible show Ea _ _ _ _; first | with_reducible refine ea_nil ?_ | with_reducible refine ea_cons ?_) | (with_reducible show Eb _ _ _ _; first | with_reducible refine eb_or ?_ | with_reducible refine eb_and ?_ | with_reducible refine eb_not ?_ | with_reducible refine eb_B ?_ | with_reducible refine eb_test ?_) | (with_reducible show Eo _ _ _ _; first | with_reducible refine eo_none ?_ | with_reducible refine eo_some ?_) | with_reducible refine isTyI (by first | with_unfolding_all rfl | assumption | exact pur_ok (by assumption)) ?_ | with_reducible refine iteT ?_ | with_reducible refine iteF ?_ | with_reducible refine bt (by first | with_unfolding_all rfl | assumption) ?_ | with_reducible refine bf (by first | with_unfolding_all rfl | assumption) ?_ | with_reducible refine nt (by first | with_unfolding_all rfl | assumption) ?_ | with_reducible refine nf (by first | with_unfolding_all rfl | assumption) ?_ | with_reducible refine fin_s ?_ | with_reducible refine fni_s ?_ | with_reducible refine fx0 (by first | with_unfolding_all rfl | assumption) ?_ | with_reducible refine fx1 (by first | with_unfolding_all rfl | assumption) ?_ | with_reducible refine fx2 (by first | with_unfolding_all rfl | assumption) ?_ | with_reducible refine fxlen (by first | with_unfolding_all rfl | assumption) ?_ | with_reducible refine fxit (by first | with_unfolding_all rfl | assumption) ?_ | with_reducible refine feq_i ?_ | with_reducible refine feq_s ?_ | with_reducible refine fne_i ?_ | with_reducible refine fne_s ?_ | with_reducible refine r1_i (by first | with_unfolding_all rfl | assumption | exact pur_ok (by assumption)) ?_ | with_reducible refine sclI (by with_unfolding_all rfl) ?_ | with_reducible refine lenI (by with_unfolding_all rfl) ?_ | with_reducible refine eI ?_))
section
variable {P : Program} {w : World} {K : PySem.W.Frag} {mg : Str → Option Value} {base : Heap}
/-! ### checked_outputs -/
theorem key_at {kvs : List (Key × Dt)} {n : Nat} (hp : ∀ kv ∈ kvs, pur kv.2 = true ∧ dep kv.2 < n) {i : Nat} {d : Dt} (h : (kvs.map fun kv => kDt kv.1)[i]? = some d) : ∃ k v, d = kDt k ∧ keyD d = k ∧ dlk kvs k = some v ∧ pur v = true ∧ dep v < n ∧ i < kvs.length ∧
    (kvs.map fun kv => kDt kv.1).drop i = kDt k :: (kvs.map fun kv => kDt kv.1).drop (i + 1) := by
  have hd : (kvs.map fun kv => kDt kv.1).drop i = d :: (kvs.map fun kv => kDt kv.1).drop (i + 1) := by
    rw [List.getElem?_eq_some_iff] at h
    obtain ⟨h1, h2⟩ := h
    rw [← h2, List.drop_eq_getElem_cons h1]
  have hlt : i < kvs.length := by have := (List.getElem?_eq_some_iff.mp h).1; rw [List.length_map] at this; exact this
  rw [List.getElem?_map] at h
  cases e : kvs[i]? with
  | none => rw [e] at h; cases h
  | some q =>
    rw [e] at h
    cases h
    obtain ⟨v, hv⟩ := dlk_some (List.mem_of_getElem? e)
    obtain ⟨h1, h2⟩ := hp _ (dlk_mem hv)
    exact ⟨q.1, v, rfl, keyD_k _, hv, h1, h2, hlt, hd⟩
/-- outputs one by one: the first odd name, or all as they are kept -/
def chkO (bt kvs : List (Key × Dt)) : List Dt → List (Key × Dt) → Sum Dt (List (Key × Dt))
  | [], f => .inr f
  | k :: ks, f => if ¬ f.length = 4 ∧ wordD k = true ∧ wireF bt ((dlk kvs (keyD k)).getD .non) = true then chkO bt kvs ks (dpt f (keyD k) (aswF ((dlk kvs (keyD k)).getD .non))) else .inl k
theorem ok_checked_outputs (T : Txt P K mg) : FnOk P w K mg base (L2.CX P w) 12 T.a_checked_outputs T.d_checked_outputs ["outputs", "boxes"] (spW K true fun ds P xe => ∃ d bt, ds = [d, .dct bt] ∧ ((∃ kvs, d = .dct kvs ∧ PreB 10 kvs ∧ match chkO bt kvs (kvs.map fun kv => kDt kv.1) [] with
    | .inr f => P (.dct f)
    | .inl k => xe T.c_BadOutput [("name", k)]) ∨ isDc d = false ∧ okT d ∧ xe T.c_BadOutputs [("thing", d)])) := by
  refine T.F_checked_outputs.ok sc_checked_outputs (fun vs H Q E h => w_len 2 h fun _ _ _ ⟨_, _, e, _⟩ => by rw [e]; rfl) (fun cdv A outer s H vs Q E hr h => ⟨_, (pss_cons (ps_if (pt_not (pt_val (pe_callB (u_isinstance K) rfl T.n_isinstance (by decide +kernel) (pa_cons (pv 0) (pa_cons (pe_bltn (v := .ty "dict") rfl T.n_dict (by decide +kernel) rfl) pa_nil))))) (pss_one (ps_raiseW rfl (takes_of rfl rfl rfl rfl) (pmk_sx (k := 0) T.X_BadOutputs (hr.mono (by omega)) T.g_BadOutputs (ExcC.ra T.e_BadOutputs T.X_BadOutputs) (pa_cons (pv 0) pa_nil)))) pss_nil) (pss_cons (ps_set (i := 2) sc_checked_outputs.nd rfl (Or.inl rfl) pe_dnewK) (pss_cons (ps_for (passes_of rfl) rfl (pi_anyK (K := K) (pv 0)) (pg_name (i := 3) sc_checked_outputs.nd rfl (Or.inl rfl)) (pss_cons (ps_if (PW.pt (pw_or (pt_cmpR (uEq K (hu64 hr)) (pe_callB (u_lenA K) rfl T.n_len (by decide +kernel) (pa_cons (pv 2) pa_nil)) (pe_glob (v := .int 4) rfl T.h_MOST_OUTPUTS.choose_spec ⟨_, rfl⟩) (nomark _)) (pw_or (pt_not (pt_val (pe_call (ok_is_word T) (hr.mono (by omega)) rfl T.g_is_word T.F_is_word.kp T.b_is_word .nil pass0 (pa_cons (pv 3) pa_nil)))) (pw_or1 (pt_not (pt_val (pe_call (ok_is_wire T) (hr.mono (by omega)) rfl T.g_is_wire T.F_is_wire.kp T.b_is_wire .nil pass0 (pa_cons (pe_ix (uIxA K (hu64 hr)) (pv 0) (pv 3) (fun _ _ => rfl)) (pa_cons (pv 1) pa_nil))))))))) (pss_one (ps_raiseW rfl (takes_of rfl rfl rfl rfl) (pmk_sx (k := 0) T.X_BadOutput (hr.mono (by omega)) T.g_BadOutput (ExcC.ra T.e_BadOutput T.X_BadOutput) (pa_cons (pv 3) pa_nil)))) pss_nil) (pss_one (ps_dput (hu_of hr) (pv 2) (pv 3) (pe_call (ok_as_wire T) (hr.mono (by omega)) rfl T.g_as_wire T.F_as_wire.kp T.b_as_wire .nil pass0 (pa_cons (pe_ix (uIxA K (hu64 hr)) (pv 0) (pv 3) (fun _ _ => rfl)) pa_nil)) rfl)))) (pss_one (ps_ret (pv 2)))))), w_start h 4 rfl fun ds P xe ⟨d, bt, e, hp⟩ => ?_⟩)
  subst e
  refine ⟨Nat.le_of_ble_eq_true rfl, ?_⟩
  rcases hp with ⟨kvs, rfl, hk, hp⟩ | ⟨hd, ho, hp⟩
  · nofun
    refine wd_asgO (ef_dnew ?_)
    refine wd_seq (wd_for (ei_any rfl (et_var rfl ⟨hk.ks, ?_⟩)))
    refine ⟨fun i e => ∃ (s : Sl) (f : List (Key × Dt)), e = [.v (.dct kvs), .v (.dct bt), .own (.dct f), s] ∧ f.length ≤ i ∧ chkO bt kvs ((kvs.map fun kv => kDt kv.1).drop i) f = chkO bt kvs (kvs.map fun kv => kDt kv.1) [], ?_, ?_, ?_⟩
    · exact ⟨.no, [], rfl, Nat.le_refl _, rfl⟩
    · intro i d e hi hI
      obtain ⟨s, f, rfl, hf, hc⟩ := hI
      obtain ⟨k, v, rfl, hkk, hv, hp1, hp2, hlt, hd⟩ := key_at hk.pv hi
      have hsz := hk.sz
      rw [hd] at hc
      have hc : (if ¬ f.length = 4 ∧ wordD (kDt k) = true ∧ wireF bt ((dlk kvs (keyD (kDt k))).getD .non) = true then chkO bt kvs ((kvs.map fun kv => kDt kv.1).drop (i + 1)) (dpt f (keyD (kDt k)) (aswF ((dlk kvs (keyD (kDt k))).getD .non))) else .inl (kDt k)) = _ := hc
      rw [hkk, hv] at hc
      have hc : (if ¬ f.length = 4 ∧ wordD (kDt k) = true ∧ wireF bt v = true then chkO bt kvs ((kvs.map fun kv => kDt kv.1).drop (i + 1)) (dpt f k (aswF v)) else .inl (kDt k)) = _ := hc
      have odd : ¬ (¬ f.length = 4 ∧ wordD (kDt k) = true ∧ wireF bt v = true) → xe T.c_BadOutput [("name", kDt k)] := fun h => by
        rw [if_neg h] at hc
        rw [← hc] at hp
        exact hp
      refine tg_name ?_
      nofun
      refine ⟨rfl, ?_⟩
      nofun
      refine Wv.b2 (fun h4 => ?_) fun h4 => ?_
      · have h4 := of_decide_eq_true h4
        nofun
        exact ⟨_, rfl, odd fun z => z.1 (by have : ((f.length : Nat) : Int) = 4 := h4; omega)⟩
      have h4 : ¬ f.length = 4 := fun z => of_decide_eq_false h4 (by show ((f.length : Nat) : Int) = 4; omega)
      nofun
      refine r1_i (okT_k k) (n2 (fun h => ?_) fun h => ?_)
      · nofun
        exact ⟨_, rfl, odd fun z => by rw [h] at z; cases z.2.1⟩
      obtain ⟨z, rfl⟩ : ∃ z, k = .inr z := by
        cases k with
        | inl j => cases h
        | inr z => exact ⟨z, rfl⟩
      nofun
      refine ⟨v, hv, ?_⟩
      nofun
      refine ⟨v, _, rfl, ⟨hp1, hp2⟩, n2 (fun h2 => ?_) fun h2 => ?_⟩
      · nofun
        exact ⟨_, rfl, odd fun z => by rw [h2] at z; cases z.2.2⟩
      rw [if_pos ⟨h4, h, h2⟩] at hc
      nofun
      refine wd_dput ?_
      nofun
      refine ⟨v, hv, ?_⟩
      nofun
      refine r1_i ⟨_, h2⟩ ⟨_, rfl, ?_⟩
      nofun
      have hfz : f.length < Zz := by omega
      exact ⟨f, rfl, hfz, _, _, rfl, Nat.le_trans (dpt_len _ _ _) (by omega), hc⟩
    · intro e hI
      obtain ⟨s, f, rfl, hf, hc⟩ := hI
      rw [List.drop_length] at hc
      rw [← hc] at hp
      exact wd_ret (et_own rfl hp)
  · nofun
    exact ⟨_, rfl, hp⟩
end
end Lw
namespace Lw
open PySem PySem.Spec PyProof.Rows L2 Evl Wv
set_option hygiene false in
local macro_rules
  | `(tactic| nofun) => `(tactic| repeat' (first | (with_reducible show Et _ _ _ _; first | with_reducible refine et_popAt (by with_unfolding_all rfl) ?_ | with_reducible refine et_var (by with_unfolding_all rfl) ?_ | with_reducible refine et_int ?_ | with_reducible refine et_str ?_ | with_reducible refine et_bl ?_ | with_reducible refine et_non ?_ | with_reducible refine et_andV ?_ | with_reducible refine et_orV ?_ | with_reducible refine et_notV ?_ | with_reducible refine et_if ?_ | with_reducible refine et_isStr ?_ | with_reducible refine et_isInt ?_ | with_reducible refine et_isBool ?_ | with_reducible refine et_isDict ?_ | with_reducible refine et_isList ?_ | with_reducible refine et_isTuple ?_ | with_reducible refine et_isLT ?_ | with_reducible refine et_tup ?_ | with_reducible refine et_neg ?_ | with_reducible refine et_ixO (by with_unfolding_all rfl) ?_ | with_reducible refine et_opL (by first | exact rop_ix | exact rop_eq | exact rop_ne | exact rop_in | exact rop_ni | exact rop_add | exact rop_sub | exact rop_mul | exact rop_lt | exact rop_le | exact rop_gt | exact rop_ge | exact rop_mod | exact rop_div | exact rop_isN | exact rop_notN) (by with_unfolding_all rfl) ?_ | with_reducible refine et_opRo (by first | exact rop_ix | exact rop_eq | exact rop_ne | exact rop_in | exact rop_ni | exact rop_add | exact rop_sub | exact rop_mul | exact rop_lt | exact rop_le | exact rop_gt | exact rop_ge | exact rop_mod | exact rop_div | exact rop_isN | exact rop_notN) (by with_unfolding_all rfl) ?_ | with_reducible refine et_op (by first | exact rop_ix | exact rop_eq | exact rop_ne | exact rop_in | exact rop_ni | exact rop_add | exact rop_sub | exact rop_mul | exact rop_lt | exact rop_le | exact rop_gt | exact rop_ge | exact rop_mod | exact rop_div | exact rop_isN | exact rop_notN) ?_ | with_reducible refine et_cbO (by first | exact rcl_len | exact rcl_int | exact rcl_sum | exact rcl_max | exact rcl_min | exact rcl_all | exact rcl_any) (by with_unfolding_all rfl) ?_ | with_reducible refine et_cb (by first | exact rcl_len | exact rcl_int | exact rcl_sum | exact rcl_max | exact rcl_min | exact rcl_all | exact rcl_any) ?_ | with_reducible refine et_chain (by first | exact rop_ix | exact rop_eq | exact rop_ne | exact rop_in | exact rop_ni | exact rop_add | exact rop_sub | exact rop_mul | exact rop_lt | exact rop_le | exact rop_gt | exact rop_ge | exact rop_mod | exact rop_div | exact rop_isN | exact rop_notN) (by first | exact rop_ix | exact rop_eq | exact rop_ne | exact rop_in | exact rop_ni | exact rop_add | exact rop_sub | exact rop_mul | exact rop_lt | exact rop_le | exact rop_gt | exact rop_ge | exact rop_mod | exact rop_div | exact rop_isN | exact rop_notN) ?_ | with_reducible refine et_dget2 ?_ | with_reducible refine et_call0 nolk ?_ | with_reducible refine et_call0 samelk ?_ | with_reducible refine et_sl ?_) | (with_reducible show Wd _ _ _ _; first | with_reducible refine wd_seq ?_ | with_reducible refine wd_if ?_ | with_reducible refine wd_ret ?_ | with_reducible refine wd_next ?_ | with_reducible refine wd_raise ?_) | (with_reducible show Ea _ _ _ _; first | with_reducible refine ea_nil ?_ | with_reducible refine ea_cons ?_) | (with_reducible show Eb _ _ _ _; first | with_reducible refine eb_or ?_ | with_reducible refine eb_and ?_ | with_reducible refine eb_not ?_ | with_reducible refine eb_B ?_ | with_reducible refine eb_test ?_) | (with_reducible show Eo _ _ _ _; first | with_reducible refine eo_none ?_ | with_reducible refine eo_some ?_) | with_reducible refine isTyI (by first | with_unfolding_all rfl | assumption | exact pur_ok (by assumption)) ?_ | with_reducible refine iteT ?_ | with_reducible refine iteF ?_ | with_reducible refine bt (by first | with_unfolding_all rfl | assumption) ?_ | with_reducible refine bf (by first | with_unfolding_all rfl | assumption) ?_ | with_reducible refine nt (by first | with_unfolding_all rfl | assumption) ?_ | with_reducible refine nf (by first | with_unfolding_all rfl | assumption) ?_ | with_reducible refine fin_s ?_ | with_reducible refine fni_s ?_ | with_reducible refine fx0 (by first | with_unfolding_all rfl | assumption) ?_ | with_reducible refine fx1 (by first | with_unfolding_all rfl | assumption) ?_ | with_reducible refine fx2 (by first | with_unfolding_all rfl | assumption) ?_ | with_reducible refine fxlen (by first | with_unfolding_all rfl | assumption) ?_ | with_reducible refine fxit (by first | with_unfolding_all rfl | assumption) ?_ | with_reducible refine feq_i ?_ | with_reducible refine feq_s ?_ | with_reducible refine fne_i ?_ | with_reducible refine fne_s ?_ | with_reducible refine r1_i (by first | with_unfolding_all rfl | assumption | exact pur_ok (by assumption)) ?_ | with_reducible refine sclI (by with_unfolding_all rfl) ?_ | with_reducible refine lenI (by with_unfolding_all rfl) ?_ | with_reducible refine eI ?_))
/-! ### kept boxes -/
/-- a kept wire: the box, the start words -/
abbrev Wi := Str × List Dt
def wD (x : Wi) : Dt := .tup [.str x.1, .lst x.2]
def okW (x : Wi) : Prop := dats x.2 = true ∧ deps x.2 < 30
/-- a kept box and its wires -/
inductive KB : Dt → List Wi → Prop where
  | inp (z : Str) : KB (.tup [.str "in", .str z]) []
  | op (z : Str) (ws : List Wi) (h : ∀ x ∈ ws, okW x) : KB (.tup [.str "op", .str z, .lst (ws.map wD)]) ws
theorem KB.kBox {b : Dt} {ws : List Wi} (h : KB b ws) : Lw.kBox b := by
  cases h with
  | inp z => exact .inl ⟨z, rfl⟩
  | op z ws h => exact .inr ⟨z, _, rfl⟩
theorem KB.wob {b : Dt} {ws : List Wi} (h : KB b ws) : wobF b = .lst (ws.map wD) := by
  cases h with
  | inp z => rfl
  | op z ws h => rfl
theorem KB.ok {b : Dt} {ws : List Wi} (h : KB b ws) : ∀ x ∈ ws, okW x := by
  cases h with
  | inp z => intro x hx; cases hx
  | op z ws h => exact h
/-- a table of kept boxes: its names, the wires by names -/
structure BoxT (kvs : List (Key × Dt)) (ns : List Str) (bx : Str → List Wi) : Prop where
  ks : kvs.map (·.1) = ns.map Sum.inr
  nd : ns.Nodup
  bx : ∀ n ∈ ns, ∃ b, dlk kvs (.inr n) = some b ∧ KB b (bx n)
  sz : ns.length < Zz
  tx : ∀ n ∈ ns, n.length ≤ Zz
/-- the boxes in an order in which wires that hold nothing lead back -/
structure Ord (ns : List Str) (bx : Str → List Wi) (found : List Str) : Prop where
  nd : found.Nodup
  sub : ∀ n ∈ found, n ∈ ns
  top : ∀ (i : Nat) n, found[i]? = some n → ∀ x ∈ bx n, x.2 = [] → ∃ j, j < i ∧ found[j]? = some x.1
  cl : ∀ n ∈ ns, (∀ x ∈ bx n, x.2 = [] → x.1 ∈ found) → n ∈ found
/-- all wires that hold nothing lead to found ones -/
def rdy (found : List Str) (ws : List Wi) : Bool := ws.all fun x => !x.2.isEmpty || decide (x.1 ∈ found)
/-- part of the way -/
structure OS (ns : List Str) (bx : Str → List Wi) (found left : List Str) : Prop where
  nd : (found ++ left).Nodup
  mem : ∀ n, n ∈ ns ↔ n ∈ found ∨ n ∈ left
  len : found.length + left.length = ns.length
  top : ∀ (i : Nat) n, found[i]? = some n → ∀ x ∈ bx n, x.2 = [] → ∃ j, j < i ∧ found[j]? = some x.1
theorem OS.step {ns : List Str} {bx : Str → List Wi} {found left : List Str} {n : Str} (o : OS ns bx found left) (h : n ∈ left) (r : rdy found (bx n) = true) : OS ns bx (found ++ [n]) (left.erase n) := by
  obtain ⟨nd1, nd2, nd3⟩ := List.nodup_append.mp o.nd
  refine ⟨List.nodup_append.mpr ⟨List.nodup_append.mpr ⟨nd1, by simp, fun a ha b hb => ?_⟩, nd2.erase n, fun a ha b hb => ?_⟩, fun m => ?_, ?_, fun i m hm x hx hx2 => ?_⟩
  · rw [List.mem_singleton.mp hb]
    exact nd3 a ha n h
  · have hb' := (nd2.mem_erase_iff).mp hb
    rcases List.mem_append.mp ha with ha | ha
    · exact nd3 a ha b hb'.2
    · rw [List.mem_singleton.mp ha]
      exact fun z => hb'.1 z.symm
  · rw [o.mem m, List.mem_append, List.mem_singleton, nd2.mem_erase_iff]
    constructor
    · rintro (z | z)
      · exact .inl (.inl z)
      · by_cases e : m = n
        · exact .inl (.inr e)
        · exact .inr ⟨e, z⟩
    · rintro ((z | z) | z)
      · exact .inl z
      · rw [z]; exact .inr h
      · exact .inr z.2
  · have := List.length_erase_of_mem h
    have h2 := List.length_pos_of_mem h
    have h3 := o.len
    simp only [List.length_append, List.length_cons, List.length_nil]
    omega
  · rw [List.getElem?_append] at hm
    by_cases hi : i < found.length
    · rw [if_pos hi] at hm
      obtain ⟨j, h1, h2⟩ := o.top i m hm x hx hx2
      exact ⟨j, h1, by rw [List.getElem?_append, if_pos (by omega)]; exact h2⟩
    · rw [if_neg hi] at hm
      have e : m = n := by
        cases q : i - found.length with
        | zero => rw [q] at hm; cases hm; rfl
        | succ k => rw [q] at hm; simp at hm
      subst e
      have := List.all_eq_true.mp r x hx
      rw [hx2] at this
      have hq : x.1 ∈ found := of_decide_eq_true (by simpa using this)
      obtain ⟨j, hj⟩ := List.mem_iff_getElem?.mp hq
      have hlt := (List.getElem?_eq_some_iff.mp hj).1
      exact ⟨j, by omega, by rw [List.getElem?_append, if_pos hlt]; exact hj⟩
theorem OS.ord {ns : List Str} {bx : Str → List Wi} {found left : List Str} (o : OS ns bx found left) (h : ∀ n ∈ left, ¬ rdy found (bx n) = true) : Ord ns bx found := by
  refine ⟨(List.nodup_append.mp o.nd).1, fun n hn => (o.mem n).mpr (.inl hn), o.top, fun n hn hz => ?_⟩
  rcases (o.mem n).mp hn with z | z
  · exact z
  · refine absurd (List.all_eq_true.mpr fun x hx => ?_) (h n z)
    cases e : x.2 with
    | nil =>
      rw [decide_eq_true (hz x hx e)]
      rfl
    | cons => rfl
/-- where a name stands first -/
theorem first_at {n : Str} : ∀ {l : List Str}, n ∈ l → ∃ j, l[j]? = some n ∧ (∀ m : Nat, m < j → l[m]? ≠ some n) ∧ l.eraseIdx j = l.erase n
  | a :: l, h => by
    by_cases e : a = n
    · subst e
      exact ⟨0, rfl, fun m hm => by omega, by simp⟩
    · obtain ⟨j, h1, h2, h3⟩ := first_at (l := l) ((List.mem_cons.mp h).elim (fun z => absurd z.symm e) id)
      refine ⟨j + 1, h1, fun m hm => ?_, ?_⟩
      · cases m with
        | zero => exact fun z => e (Option.some.inj z)
        | succ m => exact h2 m (by omega)
      · rw [List.eraseIdx_cons_succ, h3, List.erase_cons_tail (by simpa using e)]
section
variable {P : Program} {w : World} {K : PySem.W.Frag} {mg : Str → Option Value} {base : Heap}
def rdW (found : List Str) : Dt → Bool
  | .tup [.str q, .lst ts] => !ts.isEmpty || decide (q ∈ found)
  | _ => false
theorem rdW_all (found : List Str) (ws : List Wi) : (ws.map wD).all (rdW found) = rdy found ws := by
  unfold rdy
  rw [List.all_map]
  rfl
theorem ok_order_of (T : Txt P K mg) : FnOk P w K mg base CX0 5 T.a_order_of T.d_order_of ["boxes"] (spW K true fun ds P xe => ∃ kvs ns bx, ds = [.dct kvs] ∧ BoxT kvs ns bx ∧ ∀ found, Ord ns bx found → P (.lst (found.map .str))) := by
  refine T.F_order_of.ok sc_order_of (fun vs H Q E h => w_len 1 h fun _ _ _ ⟨_, _, _, e, _⟩ => by rw [e]; rfl) (fun cdv A outer s H vs Q E hr h => ⟨_, PSs.nox (pss_cons (ps_asg (pe_tup (pa_cons (pe_lst pa_nil) (pa_cons (pe_callTy (u_listA K rfl) rfl T.n_list (by decide +kernel) (pa_cons (pv 0) pa_nil)) pa_nil))) (pg_tupK (K := K) (n := 2) rfl (pgs_cons (pg_name (i := 1) sc_order_of.nd rfl (Or.inr rfl)) (pgs_cons (pg_name (i := 2) sc_order_of.nd rfl (Or.inl rfl)) pgs_nil)))) (pss_cons (ps_set (i := 3) sc_order_of.nd rfl (Or.inl rfl) (pe_un un_neg pe_int)) (pss_cons (ps_while PassesOwn.never (pt_cmpR (uNe K (hu64 hr)) (pv 3) (pe_callB (u_lenA K) rfl T.n_len (by decide +kernel) (pa_cons (pv 1) pa_nil)) (nomark _)) (pss_cons (ps_set (i := 3) sc_order_of.nd rfl (Or.inl rfl) (pe_callB (u_lenA K) rfl T.n_len (by decide +kernel) (pa_cons (pv 1) pa_nil))) (pss_one (ps_for PassesOwn.never rfl (pi_anyK (K := K) (pe_callTy (u_listA K rfl) rfl T.n_list (by decide +kernel) (pa_cons (pv 2) pa_nil))) (pg_name (i := 4) sc_order_of.nd rfl (Or.inl rfl)) (pss_one (ps_if (pt_val (pe_callB (u_allA K rfl) rfl T.n_all (by decide +kernel) (pa_cons (pe_lc (own := [("wire", 5)]) (g := gName 5) rfl sc_order_of.nd (pi_anyK (K := K) (pe_call (ok_wires_of_box T) (hr.mono (by omega)) rfl T.g_wires_of_box T.F_wires_of_box.kp T.b_wires_of_box .nil pass0 (pa_cons (pe_ix (uIxA K (hu64 hr)) (pv 0) (pv 4) (fun _ _ => rfl)) pa_nil))) (blkOk_by (N := ["boxes", "found", "left", "many", "name", "wire"]) (sc := defScope s_order_of) (by decide +kernel)) (fun _ _ _ _ _ => (pg_name (i := 5) sc_order_of.nd rfl (Or.inl rfl))) (fun _ _ _ _ _ => pts_nil) (fun _ _ _ _ _ => (pe_or (pe_cmpR (uNe K (hu64 hr)) (pe_ix (uIxA K (hu64 hr)) (pv 5) pe_int (fun _ _ => rfl)) (pe_lst pa_nil) (nomark _)) (pe_one (pe_cmpR (uInA K (hu64 hr)) (pe_ix (uIxA K (hu64 hr)) (pv 5) pe_int (fun _ _ => rfl)) (pv 1) (by with_unfolding_all rfl)))))) pa_nil))) (pss_cons (ps_expr (pe_bm PySem.F.plainAttrs_list PySem.F.slot_list_append PySem.F.type_list_append mt_append (pv 1) (pa_cons (pv 4) pa_nil))) (pss_one (ps_expr (pe_bm PySem.F.plainAttrs_list PySem.F.slot_list_remove PySem.F.type_list_remove mt_removeF (pv 2) (pa_cons (pv 4) pa_nil))))) pss_nil)))))) (pss_one (ps_ret (pv 1)))))), w_start h 6 rfl fun ds P xe ⟨kvs, ns, bx, e, B, hp⟩ => ?_⟩)
  subst e
  refine ⟨Nat.le_of_ble_eq_true rfl, ?_⟩
  have hkeys : (kvs.map fun kv => kDt kv.1) = ns.map Dt.str := by
    have : (kvs.map fun kv => kDt kv.1) = (kvs.map (·.1)).map kDt := by rw [List.map_map]; rfl
    rw [this, B.ks, List.map_map]
    rfl
  refine wd_seq (wd_tupOO (ef_lst (ea_nil ⟨Nat.zero_le _, ef_cb rcf_list (et_var rfl ⟨fun kv hkv z hz => ?_, ?_⟩)⟩)))
  · have : kv.1 ∈ kvs.map (·.1) := List.mem_map_of_mem hkv
    rw [B.ks, hz] at this
    obtain ⟨n, hn, e⟩ := List.mem_map.mp this
    cases e
    exact B.tx _ hn
  rw [hkeys]
  nofun
  refine wd_asg ?_
  nofun
  have o0 : OS ns bx [] ns := ⟨B.nd, fun n => ⟨.inr, fun z => z.elim (fun z => by cases z) id⟩, by simp, fun i n h => by cases h⟩
  refine wd_while (fun m e => ∃ (many : Int) (found left : List Str) (s4 s5 : Sl), e = [.v (.dct kvs), .own (.lst (found.map .str)), .own (.lst (left.map .str)), .v (.int many), s4, s5] ∧ (∀ d, s5 ≠ Sl.own d) ∧ OS ns bx found left ∧ (many = found.length → ∀ n ∈ left, ¬ rdy found (bx n) = true) ∧
    m = 2 * left.length + (if many = found.length then 0 else 1)) (2 * ns.length + 1) ?_ ?_
  · exact ⟨-1, [], ns, .no, .no, rfl, (fun d z => nomatch z), o0, fun z => by simp at z, rfl⟩
  rintro m e ⟨many, found, left, s4, s5, rfl, h5, o, hno, hm⟩
  nofun
  refine v2 (fun hq => ?_) fun hq => ?_
  · have hq : ¬ many = found.length := fun z => of_decide_eq_false hq (by rw [List.length_map]; exact z)
    rw [if_neg hq] at hm
    refine wd_seq (wd_asg (et_cbO rcl_len rfl ⟨rfl, ?_⟩))
    refine wd_for (ei_any rfl (Ef.et (ef_cbO rcf_list rfl ?_)))
    refine ⟨fun i e => ∃ (found' left' : List Str) (s4 s5 : Sl), e = [.v (.dct kvs), .own (.lst (found'.map .str)), .own (.lst (left'.map .str)), .v (.int ((found.map Dt.str).length : Nat)), s4, s5] ∧ (∀ d, s5 ≠ Sl.own d) ∧ OS ns bx found' left' ∧ (∀ n ∈ left.drop i, n ∈ left') ∧ found.length ≤ found'.length ∧
      (found'.length = found.length → found' = found ∧ left' = left ∧ ∀ n ∈ left.take i, ¬ rdy found (bx n) = true), ?_, ?_, ?_⟩
    · exact ⟨found, left, s4, s5, rfl, h5, o, fun n hn => hn, Nat.le_refl _, fun _ => ⟨rfl, rfl, fun n hn => by simp at hn⟩⟩
    · rintro i d e hi ⟨found', left', s4, s5, rfl, h5, o', hdr, hle, heq⟩
      obtain ⟨n, rfl, hin⟩ : ∃ n, d = .str n ∧ left[i]? = some n := by
        rw [List.getElem?_map] at hi
        cases e : left[i]? with
        | none => rw [e] at hi; cases hi
        | some n => rw [e] at hi; cases hi; exact ⟨n, rfl, rfl⟩
      have hd : left.drop i = n :: left.drop (i + 1) := by
        rw [List.getElem?_eq_some_iff] at hin
        obtain ⟨h1, h2⟩ := hin
        rw [← h2, List.drop_eq_getElem_cons h1]
      have ht : left.take (i + 1) = left.take i ++ [n] := by rw [List.take_add_one, hin]; rfl
      have hn' : n ∈ left' := hdr n (by rw [hd]; exact List.mem_cons_self ..)
      obtain ⟨b, hb, hk⟩ := B.bx n ((o'.mem n).mpr (.inr hn'))
      refine tg_name (wd_if (eb_B (et_allY (rdW found') (ei_seq ?_))))
      nofun
      refine ⟨b, hb, ?_⟩
      nofun
      refine r1_i hk.kBox ?_
      rw [hk.wob]
      refine ⟨nown_of (s := s5) rfl h5, fun x hx => ?_, ?_⟩
      · obtain ⟨wi, hwi, rfl⟩ := List.mem_map.mp hx
        obtain ⟨ok1, ok2⟩ := hk.ok wi hwi
        nofun
        refine Ef.et (ef_lst (ea_nil ⟨Nat.zero_le _, fne_nil ok1 (by omega) (v2 (fun h => ?_) fun h => ?_)⟩))
        · refine ⟨rfl, ?_⟩
          show _ = Dt.bl (!wi.2.isEmpty || decide (wi.1 ∈ found'))
          rw [h]
          rfl
        · nofun
          refine ⟨_, rfl, ?_⟩
          nofun
          refine ⟨rfl, ?_⟩
          show _ = Dt.bl (!wi.2.isEmpty || decide (wi.1 ∈ found'))
          rw [h]
          rfl
      rw [rdW_all]
      refine Wv.b2 (fun hr => ?_) fun hr => ?_
      · obtain ⟨j, h1, h2, h3⟩ := first_at hn'
        have hl := o'.len
        have hpos := List.length_pos_of_mem hn'
        have hsz := B.sz
        refine wd_seq (wd_app rfl (et_var rfl ⟨_, rfl, by rw [List.length_map]; omega, ?_⟩))
        refine wd_drop (et_remove rfl (et_var rfl ⟨left', n, j, rfl, rfl, h1, h2, ?_⟩))
        refine ⟨found' ++ [n], left'.erase n, .v (.str n), s5, ?_, h5, o'.step hn' hr, fun m hm => ?_, by simp; omega, fun z => ?_⟩
        · rw [h3, List.map_append]
          rfl
        · have hnd := (List.nodup_append.mp o.nd).2.1
          have hnd2 : (n :: left.drop (i + 1)).Nodup := by rw [← hd]; exact hnd.sublist (List.drop_sublist ..)
          have hne : m ≠ n := fun z => (List.nodup_cons.mp hnd2).1 (by rw [← z]; exact hm)
          exact ((List.nodup_append.mp o'.nd).2.1.mem_erase_iff).mpr ⟨hne, hdr m (by rw [hd]; exact List.mem_cons_of_mem _ hm)⟩
        · simp only [List.length_append, List.length_cons, List.length_nil] at z
          omega
      · refine wd_next ⟨found', left', _, _, rfl, h5, o', fun m hm => hdr m (by rw [hd]; exact List.mem_cons_of_mem _ hm), hle, fun z => ?_⟩
        obtain ⟨z1, z2, z3⟩ := heq z
        refine ⟨z1, z2, fun m hm => ?_⟩
        rw [ht] at hm
        rcases List.mem_append.mp hm with hm | hm
        · exact z3 m hm
        · rw [List.mem_singleton.mp hm, ← z1, hr]
          intro z
          cases z
    · rintro e ⟨found', left', s4, s5, rfl, h5, o', hdr, hle, heq⟩
      rw [List.length_map, List.take_length] at heq
      rw [List.length_map] at hdr
      have hl := o'.len
      have hl0 := o.len
      refine ⟨_, ?_, _, found', left', s4, s5, rfl, h5, o', fun z => ?_, rfl⟩
      · rw [List.length_map]
        split
        · omega
        · rename_i h
          have : ¬ found.length = found'.length := fun z => h (by rw [z])
          omega
      · rw [List.length_map] at z
        obtain ⟨z1, z2, z3⟩ := heq (by omega)
        subst z1 z2
        exact z3
  · have hq : many = found.length := by have := of_decide_eq_true hq; rw [List.length_map] at this; exact this
    exact wd_ret (et_own rfl (hp found (o.ord (hno hq))))
end
end Lw
namespace Lw
open PySem PySem.Spec PyProof.Rows L2 Evl Wv
section
variable {P : Program} {w : World} {K : PySem.W.Frag} {mg : Str → Option Value} {base : Heap}
/-- never called -/
theorem ok_reached (T : Txt P K mg) : FnOk P w K mg base CX0 3 T.a_reached T.d_reached ["boxes", "start", "holds_nothing"] (spW K false fun ds P xe => False) :=
  ⟨fun vs H Q E h => by obtain ⟨_, _, _, _, _, _, _, _, h, _⟩ := h; exact h.elim, fun A outer s H args us vs Q E _ _ _ _ h => by obtain ⟨_, _, _, _, _, _, _, _, h, _⟩ := h; exact h.elim⟩
/-- what checked_boxes promises -/
def RB (T : Txt P K mg) : Rd3 := fun ds P xe => ∃ d, ds = [d] ∧ ((∃ kvs, d = .dct kvs ∧ PreB 12 kvs ∧ match chkB (nmF kvs) kvs (kvs.map fun kv => kDt kv.1) [] [] with
    | .inr f => P (.dct f)
    | .inl k => xe T.c_BadBox [("name", k)]) ∨ isDc d = false ∧ okT d ∧ xe T.c_BadBoxes [("thing", d)])
def RO (T : Txt P K mg) : Rd3 := fun ds P xe => ∃ d bt, ds = [d, .dct bt] ∧ ((∃ kvs, d = .dct kvs ∧ PreB 10 kvs ∧ match chkO bt kvs (kvs.map fun kv => kDt kv.1) [] with
    | .inr f => P (.dct f)
    | .inl k => xe T.c_BadOutput [("name", k)]) ∨ isDc d = false ∧ okT d ∧ xe T.c_BadOutputs [("thing", d)])
/-- a net, of its tables -/
def netD (T : Txt P K mg) (bt ot : List (Key × Dt)) (found : List Str) : Dt := .ins T.c_Net [("box_table", .dct bt), ("output_table", .dct ot), ("order", .lst (found.map .str))]
/-- what Net(boxes, outputs) promises; rings that hold nothing are left out -/
def RN (T : Txt P K mg) : Rd3 := fun ds P xe => ∃ bd od, ds = [bd, od] ∧ RB T [bd] (fun t => ∃ bt ns bx, t = .dct bt ∧ BoxT bt ns bx ∧
  RO T [od, .dct bt] (fun u => ∃ ot, u = .dct ot ∧ ∀ found, Ord ns bx found → found.length = ns.length ∧ P (netD T bt ot found)) xe) xe
theorem ok_Net_init (T : Txt P K mg) : FnOk P w K mg base (L2.CX P w) 15 T.a_Net_init T.d_Net_init ["self", "boxes", "outputs"] (spI K true T.c_Net (RN T)) := by
  refine T.F_Net_init.ok sc_Net_init (fun vs H Q E h => i_len 2 h fun _ _ _ ⟨_, _, e, _⟩ => by rw [e]; rfl) (fun cdv A outer s H vs Q E hr h => ⟨_, (pss_cons (ps_fld (pv 0) (pe_call (ok_checked_boxes T) (hr.mono (by omega)) rfl T.g_checked_boxes T.F_checked_boxes.kp T.b_checked_boxes .nil (passes_call (takes_of rfl rfl rfl rfl) fun _ _ _ _ h => h) (pa_cons (pv 1) pa_nil)) rfl) (pss_cons (ps_fld (pv 0) (pe_call (ok_checked_outputs T) (hr.mono (by omega)) rfl T.g_checked_outputs T.F_checked_outputs.kp T.b_checked_outputs .nil (passes_call (takes_of rfl rfl rfl rfl) fun _ _ _ _ h => h) (pa_cons (pv 2) (pa_cons (pe_fld (pv 0) rfl) pa_nil))) rfl) (pss_cons (ps_fld (pv 0) (pe_call (ok_order_of T) (hr.mono (by omega)) rfl T.g_order_of T.F_order_of.kp T.b_order_of .nil pass0 (pa_cons (pe_fld (pv 0) rfl) pa_nil)) rfl) (pss_one (ps_if (pt_cmpR op_lt (pe_callB (u_lenA K) rfl T.n_len (by decide +kernel) (pa_cons (pe_fld (pv 0) rfl) pa_nil)) (pe_callB (u_lenA K) rfl T.n_len (by decide +kernel) (pa_cons (pe_fld (pv 0) rfl) pa_nil)) (nomark _)) (pss_one (ps_for (passes_of rfl) rfl (pi_anyK (K := K) (pe_fld (pv 0) rfl)) (pg_name (i := 3) sc_Net_init.nd rfl (Or.inl rfl)) (pss_one (ps_if (pt_cmpR (uInA K (hu64 hr)) (pv 3) (pe_call (ok_reached T) (hr.mono (by omega)) rfl T.g_reached T.F_reached.kp T.b_reached .nil pass0 (pa_cons (pe_fld (pv 0) rfl) (pa_cons (pv 3) (pa_cons pe_bl pa_nil)))) (by with_unfolding_all rfl)) (pss_one (ps_raiseW rfl (takes_of rfl rfl rfl rfl) (pmk_sx (k := 0) T.X_Ring (hr.mono (by omega)) T.g_Ring (ExcC.ra T.e_Ring T.X_Ring) (pa_cons (pv 3) pa_nil)))) pss_nil)))) pss_nil))))), ?_⟩)
  obtain ⟨c, x, vs', ds, Pd, xe, rfl, N0, rs, ⟨bd, od, rfl, hR⟩, hq, L⟩ := h
  match vs', rs with
  | [], rs => exact absurd rs.1 (by simp)
  | [_], rs => exact absurd rs.1 (by simp)
  | _ :: _ :: _ :: _, rs => exact absurd rs.1 (by simp)
  | [vb, vo], rs =>
    have rb := rs.2 0 vb bd rfl rfl
    have ro := rs.2 1 vo od rfl rfl
    have La := L.add (p := x) N0.cso
    have hlk : lkle true c.lk := fun _ => L.1.symm
    have one : ∀ {H : Hp} {v : V} {d : Dt}, Rv c.so (c.add x).O H v d → Rvs c.so (c.add x).O H [v] [d] := fun r => Rvs.cons r Rvs.nil
    refine ⟨vb, rfl, N0.call (R := RB T) hlk La (one rb) hR fun v1 d1 H1 ⟨bt, ns, bx, e1, hB, hO⟩ N1 k1 r1 => ?_⟩
    subst e1
    refine N1.store (i := 0) rfl T.l_Net T.o_Net_box_table (by decide) r1 fun H2 N2 k2 => ?_
    obtain ⟨dx, xs, y, z1, z2, z3⟩ := N2.get (f := "box_table") (t := .dct bt) rfl
    refine ⟨vo, rfl, .ref x, rfl, x, _, dx, xs, y, rfl, z1, T.l_Net, T.o_Net_box_table, z2, N2.call (R := RO T) hlk La (Rvs.cons (k2 _ _ (k1 _ _ ro)) (one z3)) hO fun v3 d3 H3 ⟨ot, e3, hF⟩ N3 k3 r3 => ?_⟩
    subst e3
    refine N3.store (i := 0) rfl T.l_Net T.o_Net_output_table (Nat.le_of_ble_eq_true rfl) r3 fun H4 N4 k4 => ?_
    obtain ⟨dx, xs, y, z1, z2, z3⟩ := N4.get (f := "box_table") (t := .dct bt) rfl
    refine ⟨.ref x, rfl, x, _, dx, xs, y, rfl, z1, T.l_Net, T.o_Net_box_table, z2, ?_⟩
    refine N4.call (Pd := fun d => ∃ found, d = .lst (found.map .str) ∧ Ord ns bx found) (xe := fun _ _ => False) (E := E0) (lk := true) hlk ⟨L.1, fun C fs z => z.elim, .inl rfl⟩ (one z3) ⟨_, ns, bx, rfl, hB, fun found hf => ⟨found, rfl, hf⟩⟩ fun v5 d5 H5 ⟨found, e5, ho⟩ N5 k5 r5 => ?_
    subst e5
    refine N5.store (i := 0) rfl T.l_Net T.o_Net_order (Nat.le_of_ble_eq_true rfl) r5 fun H6 N6 k6 => ?_
    obtain ⟨hl, hp⟩ := hF found ho
    have e : putD "order" (.lst (found.map .str)) (putD "output_table" (.dct ot) (putD "box_table" (.dct bt) [])) = ([("box_table", .dct bt), ("output_table", .dct ot), ("order", .lst (found.map .str))] : List (Str × Dt)) := rfl
    rw [e] at N6
    dsimp only
    refine N6.rest (σ := L2.start ["self", "boxes", "outputs", "name"] [.ref x, vb, vo]) (Pd := Pd) (xe := xe) L (by rfl) 3 (by rfl) (fun H' => hq _ H') ?_
    have hbl : bt.length = ns.length := by have := congrArg List.length hB.ks; simpa using this
    refine wd_if (eb_test (et_op rop_lt (et_cb rcl_len (ea_cons (et_fld T.l_Net T.o_Net_order (et_var rfl ⟨_, _, rfl, rfl, ea_nil ?_⟩)))))) 
    show Et _ _ _ _
    refine et_cb rcl_len (ea_cons (et_fld T.l_Net T.o_Net_box_table (et_var rfl ⟨_, _, rfl, rfl, ea_nil ?_⟩)))
    refine bf (decide_eq_false ?_) (wd_next hp)
    rw [List.length_map]
    omega
end
end Lw
namespace Lw
open PySem PySem.Spec PyProof.Rows L2 Evl Wv
theorem dpt_new {kvs : List (Key × Dt)} {k : Key} {v : Dt} (h : k ∉ kvs.map (·.1)) : dpt kvs k v = kvs ++ [(k, v)] := by
  unfold dpt
  rw [if_neg]
  intro z
  obtain ⟨q, hq, e⟩ := List.any_eq_true.mp z
  exact h (by rw [← of_decide_eq_true e]; exact List.mem_map_of_mem hq)
/-! ### ground terms as they are kept -/
def cg : Nat → Dt → Bool
  | 0, _ => false
  | _ + 1, .str z => wordD (.str z)
  | n + 1, .tup (.str z :: xs) => wordD (.str z) && (decide (1 ≤ xs.length ∧ xs.length ≤ 4) && xs.all (cg n))
  | _, _ => false
theorem cg_inv {n : Nat} {d : Dt} (h : cg n d = true) : ∃ m, n = m + 1 ∧ ((∃ z, d = .str z ∧ wordD (.str z) = true) ∨ ∃ z xs, d = .tup (.str z :: xs) ∧ wordD (.str z) = true ∧ (1 ≤ xs.length ∧ xs.length ≤ 4) ∧ ∀ x ∈ xs, cg m x = true) := by
  cases n with
  | zero => unfold cg at h; cases h
  | succ n =>
    refine ⟨n, rfl, ?_⟩
    match d, h with
    | .str z, h => unfold cg at h; exact .inl ⟨z, rfl, h⟩
    | .tup (.str z :: xs), h =>
      unfold cg at h
      obtain ⟨h1, h⟩ := Bool.and_eq_true_iff.mp h
      obtain ⟨h2, h3⟩ := Bool.and_eq_true_iff.mp h
      exact .inr ⟨z, xs, rfl, h1, of_decide_eq_true h2, fun x hx => List.all_eq_true.mp h3 x hx⟩
    | .tup [], h => unfold cg at h; cases h
    | .tup (.non :: _), h => unfold cg at h; cases h
    | .tup (.bl _ :: _), h => unfold cg at h; cases h
    | .tup (.int _ :: _), h => unfold cg at h; cases h
    | .tup (.lst _ :: _), h => unfold cg at h; cases h
    | .tup (.tup _ :: _), h => unfold cg at h; cases h
    | .tup (.dct _ :: _), h => unfold cg at h; cases h
    | .tup (.ins _ _ :: _), h => unfold cg at h; cases h
    | .tup (.st :: _), h => unfold cg at h; cases h
    | .non, h => unfold cg at h; cases h
    | .bl _, h => unfold cg at h; cases h
    | .int _, h => unfold cg at h; cases h
    | .lst _, h => unfold cg at h; cases h
    | .dct _, h => unfold cg at h; cases h
    | .ins _ _, h => unfold cg at h; cases h
    | .st, h => unfold cg at h; cases h
theorem word_ok {z : Str} (h : wordD (.str z) = true) : PyData.strOk z = true ∧ z.length < 9 ∧ 0 < z.length := by
  unfold wordD at h
  obtain ⟨h1, h2⟩ := Bool.and_eq_true_iff.mp h
  have h1 := of_decide_eq_true h1
  refine ⟨?_, h1.2, h1.1⟩
  unfold PyData.strOk
  rw [← Array.all_toList, List.all_eq_true]
  intro c hc
  have := List.all_eq_true.mp h2 (.str ⟨#[c]⟩) (by unfold strD; exact List.mem_map.mpr ⟨c, hc, rfl⟩)
  have hl : c ∈ LET.cps.toList := of_decide_eq_true this
  have := List.all_eq_true.mp (show (LET.cps.toList.all fun c => decide (c < 0x110000)) = true by decide +kernel) c hl
  exact this
theorem cg_gr : ∀ {n : Nat} {d : Dt}, cg n d = true → grF n d = true
  | 0, _, h => by unfold cg at h; cases h
  | n + 1, d, h => by
    obtain ⟨m, e, h⟩ := cg_inv h
    cases e
    unfold grF
    rcases h with ⟨z, rfl, hz⟩ | ⟨z, xs, rfl, hz, hl, hx⟩
    · rw [hz]; rfl
    · have e1 : wordD (.tup (.str z :: xs)) = false := rfl
      rw [e1, Bool.false_or]
      show (decide (2 ≤ (Dt.str z :: xs).length ∧ (Dt.str z :: xs).length ≤ 5) && (wordD (.str z) && xs.all (grF n))) = true
      rw [hz, decide_eq_true (by rw [List.length_cons]; omega), Bool.true_and, Bool.true_and, List.all_eq_true]
      exact fun x hm => cg_gr (hx x hm)
theorem cg_as : ∀ {n : Nat} {d : Dt}, cg n d = true → asF n d = d
  | 0, _, h => by unfold cg at h; cases h
  | n + 1, d, h => by
    obtain ⟨m, e, h⟩ := cg_inv h
    cases e
    unfold asF
    rcases h with ⟨z, rfl, hz⟩ | ⟨z, xs, rfl, hz, hl, hx⟩
    · rfl
    · show Dt.tup (.str z :: xs.map (asF n)) = _
      have e : xs.map (asF n) = xs := by
        have := List.map_congr_left (l := xs) (f := asF n) (g := id) fun x hm => cg_as (hx x hm)
        rw [this, List.map_id]
      rw [e]
theorem cg_dat : ∀ {n : Nat} {d : Dt}, cg n d = true → dat d = true
  | 0, _, h => by unfold cg at h; cases h
  | n + 1, d, h => by
    obtain ⟨m, e, h⟩ := cg_inv h
    cases e
    rcases h with ⟨z, rfl, hz⟩ | ⟨z, xs, rfl, hz, hl, hx⟩
    · unfold dat; exact (word_ok hz).1
    · unfold dat dats
      rw [show dat (.str z) = true from by unfold dat; exact (word_ok hz).1, Bool.true_and]
      exact dats_of fun x hm => cg_dat (hx x hm)
theorem cg_dep : ∀ {n : Nat} {d : Dt}, cg n d = true → dep d < n
  | 0, _, h => by unfold cg at h; cases h
  | n + 1, d, h => by
    obtain ⟨m, e, h⟩ := cg_inv h
    cases e
    rcases h with ⟨z, rfl, hz⟩ | ⟨z, xs, rfl, hz, hl, hx⟩
    · unfold dep; omega
    · rw [dep_tup]
      cases n with
      | zero =>
        cases xs with
        | nil => simp at hl
        | cons x xs => have := hx x (List.mem_cons_self ..); unfold cg at this; cases this
      | succ k =>
        have : deps (.str z :: xs) ≤ k := deps_le fun x hm => by
          rcases List.mem_cons.mp hm with e | hm
          · rw [e]; unfold dep; omega
          · have := cg_dep (hx x hm); omega
        omega
mutual
theorem pur_dat : ∀ (d : Dt), dat d = true → pur d = true
  | .non, _ => by unfold pur; rfl
  | .bl _, _ => by unfold pur; rfl
  | .int _, _ => by unfold pur; rfl
  | .str _, _ => by unfold pur; rfl
  | .lst xs, h => by unfold dat at h; unfold pur; exact purs_dats xs h
  | .tup xs, h => by unfold dat at h; unfold pur; exact purs_dats xs h
  | .dct _, h => by unfold dat at h; cases h
  | .ins _ _, h => by unfold dat at h; cases h
  | .st, h => by unfold dat at h; cases h
theorem purs_dats : ∀ (xs : List Dt), dats xs = true → purs xs = true
  | [], _ => by unfold purs; rfl
  | x :: xs, h => by
    unfold dats at h
    obtain ⟨a, b⟩ := Bool.and_eq_true_iff.mp h
    unfold purs
    rw [pur_dat x a, purs_dats xs b]
    rfl
end
theorem dats_cg {n : Nat} {xs : List Dt} (h : ∀ x ∈ xs, cg n x = true) : dats xs = true := dats_of fun x hx => cg_dat (h x hx)
theorem deps_cg {n : Nat} {xs : List Dt} (h : ∀ x ∈ xs, cg n x = true) : deps xs ≤ n := deps_le fun x hx => Nat.le_of_lt (cg_dep (h x hx))
def unW : Dt → Option Wi
  | .tup [.str z, .lst ts] => some (z, ts)
  | _ => none
theorem cg_mono : ∀ {n m : Nat} {d : Dt}, cg n d = true → n ≤ m → cg m d = true
  | 0, _, _, h, _ => by unfold cg at h; cases h
  | n + 1, 0, _, _, h => by omega
  | n + 1, m + 1, d, h, hm => by
    obtain ⟨k, e, h⟩ := cg_inv h
    cases e
    rcases h with ⟨z, rfl, hz⟩ | ⟨z, xs, rfl, hz, hl, hx⟩
    · unfold cg; exact hz
    · unfold cg
      rw [hz, decide_eq_true hl, Bool.true_and, Bool.true_and, List.all_eq_true]
      exact fun x hm2 => cg_mono (hx x hm2) (by omega)
/-- kept wires of kept terms -/
theorem wD_dat {n : Nat} {x : Wi} (hz : PyData.strOk x.1 = true) (h : ∀ t ∈ x.2, cg n t = true) : dat (wD x) = true := by
  unfold wD dat dats dats dats
  rw [show dat (.str x.1) = true from by unfold dat; exact hz, show dat (.lst x.2) = true from by unfold dat; exact dats_cg h]
  rfl
theorem wD_dep {n : Nat} {x : Wi} (h : ∀ t ∈ x.2, cg n t = true) : dep (wD x) ≤ n + 2 := by
  unfold wD
  rw [dep_tup]
  have : deps [.str x.1, .lst x.2] ≤ n + 1 := deps_le fun y hy => by
    rcases List.mem_cons.mp hy with e | hy
    · rw [e]; unfold dep; omega
    · rw [List.mem_singleton.mp hy, dep_lst]; have := deps_cg h; omega
  omega
end Lw
/-! Texts: split, partition, join. -/
namespace L2
open PySem PySem.Spec PyProof.Rows
def rSplit : V → List V → Hp → VK → Prop := fun x xs H Q => ∃ a b, x = .str a ∧ xs = [.str b] ∧ (b.length == 0) = false ∧ a.length + 2 ≤ sizeLine ∧ rNewStrs (Txt.split a b) H Q
def rPart : V → List V → Hp → VK → Prop := fun x xs H Q => ∃ a b, x = .str a ∧ xs = [.str b] ∧ (b.length == 0) = false ∧ a.length ≤ sizeLine ∧ ∀ p, H p = none → Q (.ref p) (upd H p (.tup [.str (Txt.partition a b).1, .str (Txt.partition a b).2.1, .str (Txt.partition a b).2.2]))
def rJoinT (K : PySem.W.Frag) : V → List V → Hp → VK → Prop := fun x xs H Q => ∃ a p, ∃ ys : List Str, x = .str a ∧ xs = [.ref p] ∧ (SqL K H p (ys.map V.str) ∨ SqT K H p (ys.map V.str)) ∧ (ys.map (·.length)).sum + ys.length * a.length ≤ 16777216 ∧ Q (.str (Txt.join a ys)) H
section
variable {X : Cx} {K : PySem.W.Frag} {o e : Expr} {to te : TE}
theorem pe_splitT {apos pos : Pos} (ho : PE X o to) (he : PE X e te) (hs : starEach [e] X.env = [(false, eval e X.env)] := by rfl) (hbase : attributeBase o "split" X.env (eval o X.env) = eval o X.env := by rfl) (hline : (apos.endLine == pos.line) = true := by rfl) :
    PE X (.Call (.Attribute o "split" apos) [e] [] pos) (tM1 rSplit to te) := pe_split ho he hs hbase hline
theorem pe_partT {apos pos : Pos} (ho : PE X o to) (he : PE X e te) (hs : starEach [e] X.env = [(false, eval e X.env)] := by rfl) (hbase : attributeBase o "partition" X.env (eval o X.env) = eval o X.env := by rfl) (hline : (apos.endLine == pos.line) = true := by rfl) :
    PE X (.Call (.Attribute o "partition" apos) [e] [] pos) (tM1 rPart to te) := pe_partition ho he hs hbase hline
theorem pe_joinT {apos pos : Pos} (ho : PE X o to) (he : PE X e te) (hs : starEach [e] X.env = [(false, eval e X.env)] := by rfl) (hbase : attributeBase o "join" X.env (eval o X.env) = eval o X.env := by rfl) (hline : (apos.endLine == pos.line) = true := by rfl) (hK : X.K = K := by rfl) :
    PE X (.Call (.Attribute o "join" apos) [e] [] pos) (tM1 (rJoinT K) to te) := by
  subst hK
  exact pe_join ho he hs hbase hline
end
end L2
namespace Wv
open PySem PySem.Spec PyProof.Rows L2 Evl
section
variable {g : Gx} {c : Cc} {env : List Sl} {to te : TE} {P : Dt → List Sl → Prop}
/-- a.split(b) -/
theorem ef_split (h : Et g env to fun d e1 => ∃ a, d = .str a ∧ Et g e1 te fun d2 e2 => ∃ b, d2 = .str b ∧ (b.length == 0) = false ∧ (Txt.split a b).length ≤ Zz ∧ (∀ z ∈ Txt.split a b, z.length ≤ Zz) ∧ P (.lst ((Txt.split a b).map .str)) e2) : Ef g env (tM1 rSplit to te) P := fun c L σ H S Q q =>
  h c L σ H S _ fun x d e1 H1 ⟨a, ea, p1⟩ S1 l1 k1 r1 => by
    subst ea
    obtain ⟨rfl, za⟩ := str_rv r1
    refine ⟨⟨a, rfl⟩, p1 c L σ H1 S1 _ fun y d2 e2 H2 ⟨b, eb, hb, hl, hz, p⟩ S2 l2 k2 r2 => ?_⟩
    subst eb
    obtain ⟨rfl, _⟩ := str_rv r2
    have kk := k1.trans (k2.le l1)
    have za' : a.length + 2 ≤ sizeLine := by have : Zz + 2 ≤ sizeLine := by decide
                                             omega
    exact ⟨a, b, rfl, rfl, hb, za', fun pp hp => q pp _ e2 _ p (S2.add hp) (l1.trans l2) (kk.trans (Ko.new hp)) (kk.back hp) (ol_new (rvs_str hz) (by rw [List.length_map]; exact hl) hp fun b z => Av.add.mp z)⟩
/-- a.partition(b) -/
theorem et_part (h : Et g env to fun d e1 => ∃ a, d = .str a ∧ Et g e1 te fun d2 e2 => ∃ b, d2 = .str b ∧ (b.length == 0) = false ∧ (Txt.partition a b).1.length ≤ Zz ∧ (Txt.partition a b).2.1.length ≤ Zz ∧ (Txt.partition a b).2.2.length ≤ Zz ∧ P (.tup [.str (Txt.partition a b).1, .str (Txt.partition a b).2.1, .str (Txt.partition a b).2.2]) e2) : Et g env (tM1 rPart to te) P := fun c L σ H S Q q =>
  h c L σ H S _ fun x d e1 H1 ⟨a, ea, p1⟩ S1 l1 k1 r1 => by
    subst ea
    obtain ⟨rfl, za⟩ := str_rv r1
    refine ⟨⟨a, rfl⟩, p1 c L σ H1 S1 _ fun y d2 e2 H2 ⟨b, eb, hb, z1, z2, z3, p⟩ S2 l2 k2 r2 => ?_⟩
    subst eb
    obtain ⟨rfl, _⟩ := str_rv r2
    have kk := k1.trans (k2.le l1)
    have za' : a.length ≤ sizeLine := Nat.le_trans za (by decide)
    refine ⟨a, b, rfl, rfl, hb, za', fun pp hp => ?_⟩
    have rs : Rvs c.so (Av c σ e2) H2 ([(Txt.partition a b).1, (Txt.partition a b).2.1, (Txt.partition a b).2.2].map V.str) ([(Txt.partition a b).1, (Txt.partition a b).2.1, (Txt.partition a b).2.2].map Dt.str) := rvs_str fun z hz => by
      simp only [List.mem_cons, List.not_mem_nil, or_false] at hz
      rcases hz with e | e | e <;> rw [e] <;> assumption
    exact q _ (.tup _) e2 _ p (S2.ex (Ex.new hp)) (l1.trans l2) (kk.trans (Ko.new hp)) (.tup (S2.nav hp) upd_same rs.1 (Nat.le_of_ble_eq_true rfl) fun i x d h1 h2 => (rs.2 i x d h1 h2).ex (Ex.new hp))
/-- a.join(xs) -/
theorem et_join (h : Et g env to fun d e1 => ∃ a, d = .str a ∧ Et g e1 te fun d2 e2 => ∃ ys : List Str, (d2 = .lst (ys.map .str) ∨ d2 = .tup (ys.map .str)) ∧ (ys.map (·.length)).sum + ys.length * a.length ≤ 16777216 ∧ (Txt.join a ys).length ≤ Zz ∧ P (.str (Txt.join a ys)) e2) : Et g env (tM1 (rJoinT g.K) to te) P := fun c L σ H S Q q =>
  h c L σ H S _ fun x d e1 H1 ⟨a, ea, p1⟩ S1 l1 k1 r1 => by
    subst ea
    obtain ⟨rfl, za⟩ := str_rv r1
    refine ⟨⟨a, rfl⟩, p1 c L σ H1 S1 _ fun y d2 e2 H2 ⟨ys, ey, hz, hl, p⟩ S2 l2 k2 r2 => ?_⟩
    have kk := k1.trans (k2.le l1)
    rcases ey with ey | ey
    · subst ey
      obtain ⟨b, xs, rfl, _, hb, rs, _⟩ := lst_rv r2
      obtain ⟨rfl, _⟩ := str_rvs rs
      exact ⟨a, b, ys, rfl, rfl, .inl (.inl (.inl hb)), hz, q _ _ e2 _ p S2 (l1.trans l2) kk (.str hl)⟩
    · subst ey
      obtain ⟨b, xs, rfl, _, hb, rs, _⟩ := tup_rv r2
      obtain ⟨rfl, _⟩ := str_rvs rs
      exact ⟨a, b, ys, rfl, rfl, .inr (.inl (.inl hb)), hz, q _ _ e2 _ p S2 (l1.trans l2) kk (.str hl)⟩
end
end Wv
/-! Reading terms from texts (no program): RP, and the texts of terms: txT. -/
namespace Lw
open PySem PySem.Spec PyProof.Rows L2 Evl Wv TL
/-- a text of signs -/
abbrev mkS (l : List Nat) : Str := ⟨l.toArray⟩
theorem tl_mkS (l : List Nat) : tl (mkS l) = l := rfl
theorem mkS_tl (z : Str) : mkS (tl z) = z := mk_tl z
theorem len_mkS (l : List Nat) : (mkS l).length = l.length := by rw [len_tl]
def isLt (c : Nat) : Bool := decide (c ∈ LET.cps.toList)
/-- the parts behind a word: each behind its sign -/
def RPl (rp : List Nat → Option (Dt × List Nat)) : Nat → List Dt → List Nat → Option (List Dt × List Nat)
  | 0, ps, r => some (ps, r)
  | k + 1, ps, r => match r with
    | [] => some (ps, [])
    | c :: r1 => if c = (if ps.isEmpty = true then 40 else 44) then (match rp r1 with
        | none => none
        | some q => RPl rp k (ps ++ [q.1]) q.2) else some (ps, c :: r1)
/-- behind the parts -/
def RPe (w : Str) (ps : List Dt) : List Nat → Option (Dt × List Nat)
  | [] => none
  | c :: r => if c = 41 ∧ ps.length ≤ 4 then some (.tup (.str w :: ps), r) else none
/-- behind a word -/
def RPw (rp : List Nat → Option (Dt × List Nat)) (w : Str) : List Nat → Option (Dt × List Nat)
  | [] => some (.str w, [])
  | c :: r => if c = 40 then (match RPl rp (c :: r).length [] (c :: r) with
      | none => none
      | some q => RPe w q.1 q.2) else some (.str w, c :: r)
/-- the ground term with which a text begins, and what is behind it -/
def RP : Nat → List Nat → Option (Dt × List Nat)
  | 0, _ => none
  | n + 1, l => if wordD (.str (mkS (l.takeWhile isLt))) = true then RPw (RP n) (mkS (l.takeWhile isLt)) (l.dropWhile isLt) else none
theorem td_app (p : Nat → Bool) (l : List Nat) : l.takeWhile p ++ l.dropWhile p = l := List.takeWhile_append_dropWhile
theorem word_ne {l : List Nat} (h : wordD (.str (mkS l)) = true) : 0 < l.length := by
  have := (word_ok h).2.2
  rw [len_mkS] at this
  exact this
/-- what is read is told apart from the rest: rests are ends -/
theorem RPl_suf {rp : List Nat → Option (Dt × List Nat)} (h : ∀ l t r, rp l = some (t, r) → r <:+ l ∧ r.length < l.length) : ∀ (k : Nat) (ps : List Dt) (r : List Nat) (ps' : List Dt) (r' : List Nat), RPl rp k ps r = some (ps', r') → r' <:+ r ∧ ps'.length + r'.length ≤ ps.length + r.length
  | 0, ps, r, ps', r', e => by
    cases e
    exact ⟨List.suffix_refl _, Nat.le_refl _⟩
  | k + 1, ps, [], ps', r', e => by
    cases e
    exact ⟨List.suffix_refl _, Nat.le_refl _⟩
  | k + 1, ps, c :: r1, ps', r', e => by
    unfold RPl at e
    dsimp only at e
    by_cases hc : c = (if ps.isEmpty = true then 40 else 44)
    · rw [if_pos hc] at e
      cases q : rp r1 with
      | none => rw [q] at e; cases e
      | some x =>
        obtain ⟨t, r2⟩ := x
        rw [q] at e
        obtain ⟨s1, s2⟩ := h _ _ _ q
        obtain ⟨i1, i2⟩ := RPl_suf h k _ _ _ _ e
        refine ⟨i1.trans (s1.trans (List.suffix_cons c r1)), ?_⟩
        simp only [List.length_append, List.length_cons, List.length_nil] at i2 ⊢
        omega
    · rw [if_neg hc] at e
      cases e
      exact ⟨List.suffix_refl _, Nat.le_refl _⟩
theorem RPe_suf {w : Str} {ps : List Dt} : ∀ {r : List Nat} {t : Dt} {r' : List Nat}, RPe w ps r = some (t, r') → r' <:+ r ∧ r'.length < r.length ∧ t = .tup (.str w :: ps) ∧ ps.length ≤ 4
  | [], t, r', e => by cases e
  | c :: r, t, r', e => by
    unfold RPe at e
    dsimp only at e
    by_cases hc : c = 41 ∧ ps.length ≤ 4
    · rw [if_pos hc] at e
      cases e
      exact ⟨List.suffix_cons c r, by simp, rfl, hc.2⟩
    · rw [if_neg hc] at e
      cases e
theorem RPw_suf {rp : List Nat → Option (Dt × List Nat)} (h : ∀ l t r, rp l = some (t, r) → r <:+ l ∧ r.length < l.length) {w : Str} : ∀ {r : List Nat} {t : Dt} {r' : List Nat}, RPw rp w r = some (t, r') → r' <:+ r
  | [], t, r', e => by
    cases e
    exact List.suffix_refl _
  | c :: r, t, r', e => by
    unfold RPw at e
    dsimp only at e
    by_cases hc : c = 40
    · rw [if_pos hc] at e
      cases q : RPl rp (c :: r).length [] (c :: r) with
      | none => rw [q] at e; cases e
      | some x =>
        rw [q] at e
        exact (RPe_suf e).1.trans (RPl_suf h _ _ _ _ _ q).1
    · rw [if_neg hc] at e
      cases e
      exact List.suffix_refl _
theorem RP_suf : ∀ (n : Nat) (l : List Nat) (t : Dt) (r : List Nat), RP n l = some (t, r) → r <:+ l ∧ r.length < l.length
  | 0, l, t, r, e => by cases e
  | n + 1, l, t, r, e => by
    unfold RP at e
    by_cases hw : wordD (.str (mkS (l.takeWhile isLt))) = true
    · rw [if_pos hw] at e
      have s := RPw_suf (RP_suf n) e
      have el := td_app isLt l
      have h0 := word_ne hw
      have hs := s.length_le
      refine ⟨s.trans ⟨l.takeWhile isLt, el⟩, ?_⟩
      have := congrArg List.length el
      rw [List.length_append] at this
      omega
    · rw [if_neg hw] at e
      cases e
/-! ### texts of terms -/
def txT : Nat → Dt → List Nat
  | 0, _ => []
  | _ + 1, .str z => tl z
  | n + 1, .tup (.str z :: xs) => tl z ++ 40 :: (joinL [44] (xs.map (txT n)) ++ [41])
  | _, _ => []
theorem word_lt {z : Str} (h : wordD (.str z) = true) : ∀ c ∈ tl z, isLt c = true := by
  unfold wordD at h
  obtain ⟨h1, h2⟩ := Bool.and_eq_true_iff.mp h
  intro c hc
  have := List.all_eq_true.mp h2 (.str ⟨#[c]⟩) (by unfold strD; exact List.mem_map.mpr ⟨c, hc, rfl⟩)
  exact this
theorem tw_app {w r : List Nat} (hw : ∀ c ∈ w, isLt c = true) (hr : ∀ c, r.head? = some c → isLt c = false) : (w ++ r).takeWhile isLt = w ∧ (w ++ r).dropWhile isLt = r := by
  induction w with
  | nil =>
    cases r with
    | nil => exact ⟨rfl, rfl⟩
    | cons c r =>
      have := hr c rfl
      rw [List.nil_append, List.takeWhile_cons, List.dropWhile_cons, this]
      exact ⟨rfl, rfl⟩
  | cons c w ih =>
    obtain ⟨h1, h2⟩ := ih fun x hx => hw x (List.mem_cons_of_mem _ hx)
    rw [List.cons_append, List.takeWhile_cons, List.dropWhile_cons, hw c (List.mem_cons_self ..), if_pos rfl, if_pos rfl, h1, h2]
    exact ⟨rfl, rfl⟩
theorem lt40 : isLt 40 = false := by decide +kernel
theorem lt41 : isLt 41 = false := by decide +kernel
theorem lt44 : isLt 44 = false := by decide +kernel
theorem RPl_txt {rp : List Nat → Option (Dt × List Nat)} {tx : Dt → List Nat} {r : List Nat} : ∀ (xs : List Dt), xs ≠ [] → (∀ x ∈ xs, ∀ r : List Nat, (∀ c, r.head? = some c → isLt c = false ∧ c ≠ 40) → rp (tx x ++ r) = some (x, r)) →
    ∀ (k : Nat) (ps : List Dt) (c : Nat), xs.length < k → c = (if ps.isEmpty = true then 40 else 44) → RPl rp k ps (c :: (joinL [44] (xs.map tx) ++ 41 :: r)) = some (ps ++ xs, 41 :: r)
  | [], h, _, _, _, _, _, _ => absurd rfl h
  | [x], _, h, k + 2, ps, c, hk, hc => by
    unfold RPl
    dsimp only
    rw [if_pos hc]
    show (match rp (tx x ++ 41 :: r) with | none => none | some q => RPl rp (k + 1) (ps ++ [q.1]) q.2) = _
    rw [h x (List.mem_cons_self ..) _ fun c hc => by cases hc; exact ⟨lt41, by decide⟩]
    dsimp only
    unfold RPl
    dsimp only
    rw [if_neg (by rw [if_neg (by simp)]; decide)]
  | [x], _, h, 0, ps, c, hk, hc => by simp at hk
  | [x], _, h, 1, ps, c, hk, hc => by simp at hk
  | x :: y :: ys, _, h, 0, ps, c, hk, hc => by simp at hk
  | x :: y :: ys, _, h, k + 1, ps, c, hk, hc => by
    unfold RPl
    dsimp only
    rw [if_pos hc]
    have ej : joinL [44] ((x :: y :: ys).map tx) ++ 41 :: r = tx x ++ 44 :: (joinL [44] ((y :: ys).map tx) ++ 41 :: r) := by
      show (tx x ++ ([44] ++ joinL [44] ((y :: ys).map tx))) ++ 41 :: r = _
      rw [List.append_assoc, List.append_assoc]
      rfl
    rw [ej, h x (List.mem_cons_self ..) _ fun c hc => by cases hc; exact ⟨lt44, by decide⟩]
    dsimp only
    rw [RPl_txt (y :: ys) (by simp) (fun z hz => h z (List.mem_cons_of_mem _ hz)) k (ps ++ [x]) 44 (by simp only [List.length_cons] at hk ⊢; omega) (by rw [if_neg (by simp)])]
    rw [List.append_assoc]
    rfl
/-- a term's text is read as the term -/
theorem RP_txt : ∀ (n m : Nat) (t : Dt), cg n t = true → n ≤ m → ∀ r : List Nat, (∀ c, r.head? = some c → isLt c = false ∧ c ≠ 40) → RP m (txT n t ++ r) = some (t, r) := fun n => by
  induction n with
  | zero => intro m t h; obtain ⟨_, e, _⟩ := cg_inv h; cases e
  | succ n ih =>
    intro m t h hm r hr
    obtain ⟨k, e, h⟩ := cg_inv h
    cases e
    obtain ⟨m, rfl⟩ : ∃ k, m = k + 1 := ⟨m - 1, by omega⟩
    rcases h with ⟨z, rfl, hz⟩ | ⟨z, xs, rfl, hz, hl, hx⟩
    · show RP (m + 1) (tl z ++ r) = _
      obtain ⟨e1, e2⟩ := tw_app (word_lt hz) fun c hc => (hr c hc).1
      unfold RP
      rw [e1, e2, mkS_tl, if_pos hz]
      cases r with
      | nil => rfl
      | cons c r =>
        unfold RPw
        dsimp only
        rw [if_neg (hr c rfl).2]
    · have et : txT (n + 1) (.tup (.str z :: xs)) ++ r = tl z ++ (40 :: (joinL [44] (xs.map (txT n)) ++ 41 :: r)) := by
        show (tl z ++ 40 :: (joinL [44] (xs.map (txT n)) ++ [41])) ++ r = _
        rw [List.append_assoc, List.cons_append, List.append_assoc]
        rfl
      rw [et]
      obtain ⟨e1, e2⟩ := tw_app (w := tl z) (r := 40 :: (joinL [44] (xs.map (txT n)) ++ 41 :: r)) (word_lt hz) fun c hc => by cases hc; exact lt40
      unfold RP
      rw [e1, e2, mkS_tl, if_pos hz]
      unfold RPw
      dsimp only
      rw [if_pos rfl]
      have hne : xs ≠ [] := fun e => by rw [e] at hl; simp at hl
      have hlen : ∀ (ys : List Dt), ys.length ≤ (joinL [44] (ys.map (txT n))).length + 1 := fun ys => by
        induction ys with
        | nil => simp
        | cons y ys ih2 =>
          cases ys with
          | nil => simp
          | cons y2 ys =>
            show _ ≤ (txT n y ++ ([44] ++ joinL [44] ((y2 :: ys).map (txT n)))).length + 1
            simp only [List.length_append, List.length_cons, List.length_nil] at ih2 ⊢
            omega
      rw [RPl_txt xs hne (fun x hx1 r hr => ih m x (hx x hx1) (by omega) r hr) _ [] 40 (by
        have := hlen xs
        simp only [List.length_append, List.length_cons]
        omega) rfl]
      show RPe z ([] ++ xs) (41 :: r) = _
      unfold RPe
      dsimp only
      rw [List.nil_append, if_pos ⟨rfl, hl.2⟩]
/-- signs of a term's text -/
theorem txT_sg : ∀ (n : Nat) (t : Dt), cg n t = true → ∀ c ∈ txT n t, isLt c = true ∨ c = 40 ∨ c = 41 ∨ c = 44 := fun n => by
  induction n with
  | zero => intro t h; obtain ⟨_, e, _⟩ := cg_inv h; cases e
  | succ n ih =>
    intro t h c hc
    obtain ⟨k, e, h⟩ := cg_inv h
    cases e
    rcases h with ⟨z, rfl, hz⟩ | ⟨z, xs, rfl, hz, hl, hx⟩
    · exact .inl (word_lt hz c hc)
    · have hc : c ∈ tl z ++ 40 :: (joinL [44] (xs.map (txT n)) ++ [41]) := hc
      have hj : ∀ ys : List Dt, (∀ y ∈ ys, y ∈ xs) → ∀ c ∈ joinL [44] (ys.map (txT n)), isLt c = true ∨ c = 40 ∨ c = 41 ∨ c = 44 := fun ys => by
        induction ys with
        | nil => intro _ c hc; cases hc
        | cons y ys ih2 =>
          intro hy c hc
          cases ys with
          | nil => exact ih y (hx y (hy y (List.mem_cons_self ..))) c hc
          | cons y2 ys =>
            have hc : c ∈ txT n y ++ ([44] ++ joinL [44] ((y2 :: ys).map (txT n))) := hc
            rcases List.mem_append.mp hc with h | h
            · exact ih y (hx y (hy y (List.mem_cons_self ..))) c h
            · rcases List.mem_append.mp h with h | h
              · exact .inr (.inr (.inr (List.mem_singleton.mp h)))
              · exact ih2 (fun z hz => hy z (List.mem_cons_of_mem _ hz)) c h
      rcases List.mem_append.mp hc with h | h
      · exact .inl (word_lt hz c h)
      · rcases List.mem_cons.mp h with h | h
        · exact .inr (.inl h)
        · rcases List.mem_append.mp h with h | h
          · exact hj xs (fun _ z => z) c h
          · exact .inr (.inr (.inl (List.mem_singleton.mp h)))
theorem txT_ne {n : Nat} {t : Dt} (h : cg n t = true) : txT n t ≠ [] := by
  obtain ⟨k, e, hh⟩ := cg_inv h
  subst e
  clear h
  rcases hh with ⟨z, rfl, hz⟩ | ⟨z, xs, rfl, hz, hl, hx⟩
  · intro e
    have e : tl z = [] := e
    have := (word_ok hz).2.2
    rw [len_tl, e] at this
    simp at this
  · intro e
    have e : tl z ++ 40 :: (joinL [44] (xs.map (txT k)) ++ [41]) = [] := e
    simp at e
end Lw
namespace Lw
open PySem PySem.Spec PyProof.Rows L2 Evl Wv
section
variable {P : Program} {w : World} {K : PySem.W.Frag} {mg : Str → Option Value} {base : Heap}
def StX (K : PySem.W.Frag) (H : Hp) (s c : Addr) (ns : List Int) : Prop := ∃ n l m, St4 K H s c ns n l m
theorem StX.ex {H H1 : Hp} {s c : Addr} {ns : List Int} (S : StX K H s c ns) (e : Ex H H1) : StX K H1 s c ns := by
  obtain ⟨n, l, m, S⟩ := S
  exact ⟨n, l, m, S.ex e⟩
theorem cut_int (ns : List Int) (lo hi : Option Int) : ∃ ns' : List Int, cutV (ns.map V.int) lo hi = ns'.map V.int ∧ ns'.length ≤ ns.length := by
  unfold cutV
  refine ⟨(ns.drop _).take _, by rw [List.map_take, List.map_drop], ?_⟩
  rw [List.length_take, List.length_drop]
  omega
theorem at_int (ns : List Int) {i : Int} (h0 : 0 ≤ i) (h1 : i < ns.length) : atI (ns.map V.int) i = some (.int (ns.getD i.toNat 0)) := by
  obtain ⟨j, rfl⟩ := Int.eq_ofNat_of_zero_le h0
  have hj : j < ns.length := by omega
  unfold atI
  rw [show ixN (ns.map V.int).length (j : Int) = some j from ixN_nat (by simpa using hj)]
  simp [hj]
theorem fm_pos (a : Int) {b : Int} (h : 0 < b) : 0 ≤ a.fmod b ∧ a.fmod b < b := ⟨Int.fmod_nonneg_of_pos a h, Int.fmod_lt_of_pos a h⟩
def spFresh (K : PySem.W.Frag) : Sp := fun vs H Q _ => ∃ (a : Addr) (ns : List Int), vs = [.ref a] ∧ SqL K H a (ns.map V.int) ∧ ns.length ≤ 63 ∧ ∀ s c ns' H', H s = none → H c = none → H' c ≠ none → Ex H H' → StX K H' s c ns' → Q (.ref s) H'
theorem ok_fresh (T : Txt P K mg) : FnOk P w K mg base CX0 1 T.a_fresh T.d_fresh ["_law_script"] (spFresh K) := by
  refine T.F_fresh.ok sc_fresh (fun vs H Q E h => ?_) (fun cdv A outer s H vs Q E hr h => ⟨_, PSs.nox (pss_one (ps_ret (pe_lst (pa_cons (pe_slice (uSl K) (pv 0) po_none (po_some pe_int)) (pa_cons pe_int (pa_cons pe_int (pa_cons pe_bl pa_nil))))))), ?_⟩)
  · obtain ⟨a, ns, rfl, _⟩ := h
    rfl
  · obtain ⟨a, ns, rfl, hS, hl, hQ⟩ := h
    obtain ⟨ns', e1, e2⟩ := cut_int ns none (some 63)
    refine (el_sl (ev_var rfl) eo_none (eo_some ev_c) hS) H (Ex.refl H) _ fun c H1 hc ex1 h1 => ?_
    refine ⟨by show 4 ≤ sizeLine; decide, fun st hs => ?_⟩
    have hcs : c ≠ st := fun z => by rw [z, hs] at h1; cases h1
    refine hQ st c ns' _ (fresh_back ex1 hs) hc (by rw [Ex.new hs c _ h1]; exact fun z => nomatch z) (ex1.trans (Ex.new hs)) ⟨0, 0, false, hcs, ?_, by omega, upd_same⟩
    rw [← e1]
    exact ex_l (Ex.new hs) (sq_of h1)
def primes : List V := [.int 2147483647, .int 2147483629, .int 2147483587, .int 2147483579, .int 2147483563]
theorem primes_at : ∀ {k : Nat} {x : V}, primes[k]? = some x → k < 5 ∧ ∃ p : Int, x = .int p ∧ 0 < p ∧ p < 2147483648
  | 0, _, h => by cases h; exact ⟨by decide, _, rfl, by decide, by decide⟩
  | 1, _, h => by cases h; exact ⟨by decide, _, rfl, by decide, by decide⟩
  | 2, _, h => by cases h; exact ⟨by decide, _, rfl, by decide, by decide⟩
  | 3, _, h => by cases h; exact ⟨by decide, _, rfl, by decide, by decide⟩
  | 4, _, h => by cases h; exact ⟨by decide, _, rfl, by decide, by decide⟩
  | k + 5, _, h => by cases h
def spFill (K : PySem.W.Frag) : Sp := fun vs H Q _ => ∃ s c ns, vs = [.ref s] ∧ StX K H s c ns ∧ ∀ H', Xs s H H' → StX K H' s c ns → Q .non H'
theorem ok_fill (T : Txt P K mg) : FnOk P w K mg base CX0 1 T.a_fill T.d_fill ["_law_state"] (spFill K) := by
  refine T.F_fill.ok sc_fill (fun vs H Q E h => ?_) (fun cdv A outer s H vs Q E hr h => ⟨_, PSs.nox (pss_cons (ps_par (i := 1) (j := 2) rfl sc_fill.nd rfl rfl (by decide) rfl rfl (pa_cons (pe_ix (uIx K) (pv 0) pe_int (fun _ _ => rfl)) (pa_cons (pe_ix (uIx K) (pv 0) pe_int (fun _ _ => rfl)) pa_nil)) rfl rfl) (pss_cons (ps_set (i := 3) sc_fill.nd rfl (Or.inl rfl) (pe_op (uAdd K) (pe_op uMul pe_int (pv 2)) pe_int)) (pss_cons (ps_if (pt_cmpR op_gt (pe_callB (u_len K) rfl T.n_len (by decide +kernel) (pa_cons (pv 1) pa_nil)) pe_int (nomark _)) (pss_one (ps_set (i := 3) sc_fill.nd rfl (Or.inl rfl) (pe_op (uAdd K) (pe_op uMul pe_int (pe_op op_fdivN (pv 2) (pe_callB (u_len K) rfl T.n_len (by decide +kernel) (pa_cons (pv 1) pa_nil)))) (pe_ix (uIx K) (pv 1) (pe_op op_modN (pe_callTy uC_int rfl T.n_int (by decide +kernel) (pa_cons (pv 2) pa_nil)) (pe_callB (u_len K) rfl T.n_len (by decide +kernel) (pa_cons (pv 1) pa_nil))) (fun _ _ => rfl))))) pss_nil) (pss_cons (ps_asg (pe_op (uAdd K) (pv 2) pe_int) (pg_sub (pv 0) pe_int set_list)) (pss_cons (ps_asg (pe_or (pe_cmpR op_ge (pv 2) (pe_callB (u_len K) rfl T.n_len (by decide +kernel) (pa_cons (pv 1) pa_nil)) (nomark _)) (pe_one (pe_cmpR op_lt (pv 3) (pe_op op_pow pe_int pe_int) (nomark _)))) (pg_sub (pv 0) pe_int set_list)) (pss_cons (ps_asg (pe_op op_sub (pv 3) (pe_op op_pow pe_int pe_int)) (pg_sub (pv 0) pe_int set_list)) (pss_one (ps_if (pt_val (pe_ix (uIx K) (pv 0) pe_int (fun _ _ => rfl))) (pss_cons (ps_asg pe_int (pg_sub (pv 0) pe_int set_list)) (pss_one (ps_for PassesOwn.never rfl (pi_enumT rfl T.n_enumerate (pa_cons (pe_tup (pa_cons pe_int (pa_cons pe_int (pa_cons pe_int (pa_cons pe_int (pa_cons pe_int pa_nil)))))) pa_nil)) (pg_tup rfl (pgs_cons (pg_name (i := 4) sc_fill.nd rfl (Or.inl rfl)) (pgs_cons (pg_name (i := 5) sc_fill.nd rfl (Or.inl rfl)) pgs_nil))) (pss_cons (ps_set (i := 6) sc_fill.nd rfl (Or.inl rfl) (pe_op op_modN (pe_callTy uC_int rfl T.n_int (by decide +kernel) (pa_cons (pe_op uMul (pe_op (uAdd K) (pe_op (uAdd K) (pv 3) (pe_op uMul (pe_op uMul pe_int (pv 4)) (pv 4))) (pe_op uMul pe_int (pv 4))) (pe_op (uAdd K) pe_int (pe_op uMul pe_int (pv 4)))) pa_nil)) (pv 5))) (pss_one (ps_asg (pe_op (uAdd K) (pe_op uMul (pe_ix (uIx K) (pv 0) pe_int (fun _ _ => rfl)) (pv 5)) (pe_op op_modN (pe_callTy uC_int rfl T.n_int (by decide +kernel) (pa_cons (pe_op op_pow (pv 6) pe_int) pa_nil)) (pv 5))) (pg_sub (pv 0) pe_int set_list))))))) pss_nil)))))))), ?_⟩)
  · obtain ⟨a, _, _, rfl, _⟩ := h
    rfl
  · obtain ⟨st, c, ns, rfl, ⟨n, l, m, S⟩, hQ⟩ := h
    refine q_par (ea_cons (S.g0 rfl) (ea_cons (S.g1 rfl) ea_nil)) fun H1 e1 => ?_
    have S1 := S.ex e1
    have x1 : Xs st H H1 := e1.xs
    have hlen : ∀ {σ : L2.St} {H' : Hp}, St4 K H' st c ns n l m → σ[1]? = some (some (.ref c)) → Ev (tCB (rLenS K) (tCons (tVar 1) tNil)) σ H' (.int ((ns.map V.int).length : Int)) := fun S h => ev_len (ev_var h) S.cs
    refine q_asg (ev_add (ev_mul ev_c (ev_var rfl) (.inl ⟨by decide, by decide⟩)) ev_c) fun H2 e2 => ?_
    have S2 := S1.ex e2
    have x2 := x1.trans e2.xs
    have hn : ((ns.map V.int).length : Int) ≤ 63 := by have := S.len; simp; omega
    generalize hL : ((ns.map V.int).length : Int) = L at hn hlen
    refine q_ifAsg (v := .int (if 0 < L then 104729 * n.fdiv L + ns.getD (n.fmod L).toNat 0 else 31 * n + 7)) (et_test (ev_gt (hlen S2 rfl) ev_c)) (fun hb => ?_) (fun hb => ?_) fun H3 e3 => ?_
    · have hpos : 0 < L := of_decide_eq_true hb
      have f := fm_pos n hpos
      rw [if_pos hpos]
      refine ev_add (ev_mul ev_c (ev_fdiv (ev_var rfl) (hlen S2 rfl) ⟨by omega, by omega⟩) (.inl ⟨by decide, by decide⟩)) (ev_ixL (ev_var rfl) (ev_mod (ev_int (ev_var rfl)) (hlen S2 rfl) (by omega)) S2.cs (at_int ns f.1 ?_))
      have : L = ns.length := by rw [← hL]; simp
      omega
    · rw [if_neg (of_decide_eq_false hb)]
      rfl
    generalize (if 0 < L then 104729 * n.fdiv L + ns.getD (n.fmod L).toNat 0 else 31 * n + 7) = seed
    have S3 := S2.ex e3
    have x3 := x2.trans e3.xs
    refine q_st (S3.p1 rfl (ev_add (ev_var rfl) ev_c) fun H4 x4 S4 => ?_)
    refine q_st (S4.p3 rfl (ev_orV (ev_ge (ev_var rfl) (ev_len (ev_var rfl) S4.cs)) fun _ => ev_lt (ev_var rfl) (ev_pow ev_c ev_c ⟨by decide, by decide, by decide⟩)) fun H5 x5 S5 => ?_)
    refine q_st (S5.p2 rfl (ev_sub (ev_var rfl) (ev_pow ev_c ev_c ⟨by decide, by decide, by decide⟩)) fun H6 x6 S6 => ?_)
    have x36 := ((x3.trans x4).trans x5).trans x6
    refine s_if (et_B (S6.g3 rfl)) (fun hb H7 e7 => ?_) (fun hb H7 e7 => hQ _ (x36.trans e7.xs) ⟨_, _, _, S6.ex e7⟩)
    refine q_st ((S6.ex e7).p2 rfl ev_c fun H8 x8 S8 => ?_)
    have x38 := (x36.trans e7.xs).trans x8
    refine s_forET (xs := primes) (ea_cons ev_c (ea_cons ev_c (ea_cons ev_c (ea_cons ev_c (ea_cons ev_c ea_nil))))) (by decide)
      (fun p k σ' H' => ∃ (va vb vc : Option V) (l' : Int) (m' : Bool), σ' = [some (.ref st), some (.ref c), some (.int n), some (.int seed), va, vb, vc] ∧ St4 K H' st c ns (n + 1) l' m' ∧ Xs st H H' ∧ p ≠ st ∧ SqT K H' p primes)
      (fun p H9 hp e9 h9 => ⟨_, _, _, _, _, rfl, S8.ex e9, x38.trans e9.xs, Ne.symm (ne_of_none S8.st hp), st_of h9⟩) (fun p k σ' H' _ ⟨_, _, _, _, _, _, _, _, _, hT⟩ => hT) ?_ ?_
    · intro p k x σ' H' hx ⟨va, vb, vc, l', m', hσ, S9, x9, hp, hT⟩ H10 e10
      subst hσ
      obtain ⟨hk, pr, rfl, p0, p1⟩ := primes_at hx
      have S10 := S9.ex e10
      refine q_asg (ev_mod (ev_int (ev_mul (ev_add (ev_add (ev_var rfl) (ev_mul (ev_mul ev_c (ev_var rfl) (.inl ⟨by decide, by decide⟩)) (ev_var rfl) (.inr ⟨by omega, by omega⟩))) (ev_mul ev_c (ev_var rfl) (.inl ⟨by decide, by decide⟩)))
        (ev_add ev_c (ev_mul ev_c (ev_var rfl) (.inl ⟨by decide, by decide⟩))) (.inr ⟨by omega, by omega⟩))) (ev_var rfl) (by omega)) fun H11 e11 => ?_
      have S11 := S10.ex e11
      have f := fm_pos ((seed + 10007 * (k : Int) * (k : Int) + 101 * (k : Int)) * (48271 + 2 * (k : Int))) p0
      refine S11.p2 rfl (ev_add (ev_mul (S11.g2 rfl) (ev_var rfl) (.inr ⟨by omega, by omega⟩)) (ev_mod (ev_int (ev_pow (ev_var rfl) ev_c ⟨by decide, by decide, by omega⟩)) (ev_var rfl) (by omega))) fun H12 x12 S12 => ?_
      exact ⟨_, _, _, _, _, rfl, S12, ((x9.trans e10.xs).trans e11.xs).trans x12, hp, x12.sqT hp (ex_t (e10.trans e11) hT)⟩
    · intro p σ' H' ⟨va, vb, vc, l', m', hσ, S9, x9, hp, hT⟩
      exact hQ _ x9 ⟨_, _, _, S9⟩
def spTake (K : PySem.W.Frag) : Sp := fun vs H Q _ => ∃ (s c : Addr) (ns : List Int) (many : Int), vs = [.ref s, .int many] ∧ 0 < many ∧ many ≤ 100000 ∧ StX K H s c ns ∧ ∀ (d : Int) H', 0 ≤ d → d < many → Xs s H H' → StX K H' s c ns → Q (.int d) H'
theorem ok_take (T : Txt P K mg) : FnOk P w K mg base CX0 2 T.a_take T.d_take ["_law_state", "_law_many"] (spTake K) := by
  refine T.F_take.ok sc_take (fun vs H Q E h => ?_) (fun cdv A outer s H vs Q E hr h => ⟨_, PSs.nox (pss_cons (ps_set (i := 2) sc_take.nd rfl (Or.inl rfl) pe_int) (pss_cons (ps_while PassesOwn.never (PW.pt (pw_and (pt_cmpR op_lt (pv 2) pe_int (nomark _)) (pw_and1 (PW.pt (pw_or (pt_cmpR (uEq K (hu64 hr)) (pe_ix (uIx K) (pv 0) pe_int (fun _ _ => rfl)) pe_int (nomark _)) (pw_or1 (PW.pt (pw_and (pt_val (pe_ix (uIx K) (pv 0) pe_int (fun _ _ => rfl))) (pw_and1 (pt_cmpR op_lt (pe_ix (uIx K) (pv 0) pe_int (fun _ _ => rfl)) (pe_op uMul (pv 1) pe_int) (nomark _))))))))))) (pss_cons (ps_expr (pe_call (ok_fill T) (hr.mono (by decide)) rfl T.g_fill T.F_fill.kp T.b_fill .nil pass0 (pa_cons (pv 0) pa_nil))) (pss_cons (ps_aug (i := 2) sc_take.nd rfl (Or.inl rfl) pe_int ip_add) (pss_one (ps_if (PW.pt (pw_and (pt_val (pe_ix (uIx K) (pv 0) pe_int (fun _ _ => rfl))) (pw_and1 (pt_cmpR op_lt (pe_ix (uIx K) (pv 0) pe_int (fun _ _ => rfl)) (pe_op uMul (pv 1) pe_int) (nomark _))))) (pss_one (ps_asg (pe_op (uAdd K) (pe_ix (uIx K) (pv 0) pe_int (fun _ _ => rfl)) (pe_op uMul (pe_op uMul (pv 1) pe_int) (pe_op (uAdd K) pe_int (pe_op op_modN (pe_callTy uC_int rfl T.n_int (by decide +kernel) (pa_cons (pe_ix (uIx K) (pv 0) pe_int (fun _ _ => rfl)) pa_nil)) pe_int)))) (pg_sub (pv 0) pe_int set_list))) pss_nil))))) (pss_cons (ps_set (i := 3) sc_take.nd rfl (Or.inl rfl) (pe_op op_modN (pe_callTy uC_int rfl T.n_int (by decide +kernel) (pa_cons (pe_ix (uIx K) (pv 0) pe_int (fun _ _ => rfl)) pa_nil)) (pv 1))) (pss_cons (ps_asg (pe_op op_fdivN (pe_ix (uIx K) (pv 0) pe_int (fun _ _ => rfl)) (pv 1)) (pg_sub (pv 0) pe_int set_list)) (pss_one (ps_ret (pv 3))))))), ?_⟩)
  · obtain ⟨a, _, _, _, rfl, _⟩ := h
    rfl
  · obtain ⟨st, c, ns, many, rfl, m0, m1, S, hQ⟩ := h
    refine q_asg ev_c fun H1 e1 => ?_
    have sm : ∀ {σ : L2.St} {H' : Hp}, σ[1]? = some (some (.int many)) → Ev (tOp rMulU (tVar 1) (tC (.int 4096))) σ H' (.int (many * 4096)) := fun h => ev_mul (ev_var h) ev_c (.inr ⟨by decide, by decide⟩)
    refine q_while (fun m σ' H' => ∃ laps : Nat, m = 64 - laps ∧ laps ≤ 64 ∧ σ' = [some (.ref st), some (.int many), some (.int (laps : Int)), none] ∧ StX K H' st c ns ∧ Xs st H H') 64 ⟨0, rfl, by decide, rfl, S.ex e1, e1.xs⟩ ?_
    rintro m σ' H' ⟨laps, rfl, hl, rfl, ⟨n, l, mx, S⟩, x⟩
    refine ⟨_, et_and (et_test (ev_lt (ev_var rfl) ev_c)) fun _ => et_or (et_test (ev_eq (S.g2 rfl) ev_c rfl)) fun _ => et_and (et_B (S.g3 rfl)) fun _ => et_test (ev_lt (S.g2 rfl) (sm rfl)), fun hb H2 e2 => ?_, fun _ H2 e2 => ?_⟩
    · have hlt : laps < 64 := by
        have z := (Bool.and_eq_true_iff.mp hb).1
        have := of_decide_eq_true z
        omega
      refine ⟨fun σ2 H2 => σ2 = [some (.ref st), some (.int many), some (.int ((laps + 1 : Nat) : Int)), none] ∧ StX K H2 st c ns ∧ Xs st H H2, fun σ2 H3 ⟨h1, h2, h3⟩ => ⟨64 - (laps + 1), by omega, laps + 1, rfl, hlt, h1, h2, h3⟩, ?_⟩
      refine q_st ⟨_, rfl, st, c, ns, rfl, ⟨_, _, _, S.ex e2⟩, fun H3 x3 ⟨n, l, mx, S3⟩ => ?_⟩
      refine q_aug rfl ev_c fun H4 e4 => ?_
      have S4 := S3.ex e4
      have x4 := ((x.trans e2.xs).trans x3).trans e4.xs
      refine s_if (et_and (et_B (S4.g3 rfl)) fun _ => et_test (ev_lt (S4.g2 rfl) (sm rfl))) (fun hb H5 e5 => ?_) (fun hb H5 e5 => ⟨rfl, ⟨_, _, _, S4.ex e5⟩, x4.trans e5.xs⟩)
      have S5 := S4.ex e5
      have f := fm_pos l (b := 4093) (by decide)
      refine S5.p2 rfl (ev_add (S5.g2 rfl) (ev_mul (sm rfl) (ev_add ev_c (ev_mod (ev_int (S5.g2 rfl)) ev_c (by decide))) (.inr ⟨by omega, by omega⟩))) fun H6 x6 S6 => ?_
      exact ⟨rfl, ⟨_, _, _, S6⟩, (x4.trans e5.xs).trans x6⟩
    · have S2 := S.ex e2
      refine q_asg (ev_mod (ev_int (S2.g2 rfl)) (ev_var rfl) (by omega)) fun H3 e3 => ?_
      have S3 := S2.ex e3
      refine q_st (S3.p2 rfl (ev_fdiv (S3.g2 rfl) (ev_var rfl) ⟨by omega, by omega⟩) fun H4 x4 S4 => ?_)
      have f := fm_pos l m0
      exact s_ret (ev_var rfl) fun H5 e5 => hQ _ _ f.1 f.2 ((((x.trans e2.xs).trans e3.xs).trans x4).trans e5.xs) ⟨_, _, _, S4.ex e5⟩
/-! ### the same, told of trees -/
theorem fn_mono {CX : CXT} {k : Nat} {f : Addr} {fd : FuncData} {ps : List Str} {sp sp' : Sp} (F : FnOk P w K mg base CX k f fd ps sp) (h : ∀ vs H Q E, sp' vs H Q E → sp vs H Q E) : FnOk P w K mg base CX k f fd ps sp' :=
  ⟨fun vs H Q E z => F.len vs H Q E (h _ _ _ _ z), fun A outer s H args us vs Q E a b c d z => F.run A outer s H args us vs Q E a b c d (h _ _ _ _ z)⟩
theorem stt_of {so : Option Addr} {O : Addr → Prop} {H : Hp} {v : V} {cc : Ct} (r : Rv so O H v .st) (h : Stt K so cc H) : ∃ s ns, so = some s ∧ v = .ref s ∧ StX K H s cc.cc ns := by
  cases r with
  | st e =>
    subst e
    obtain ⟨ns, n, l, m, S⟩ := h.1
    exact ⟨_, ns, rfl, rfl, n, l, m, S⟩
/-- behind a draw -/
theorem hb_draw {s : Addr} {cc : Ct} {O : Addr → Prop} {lk : Bool} {H H' : Hp} {ns : List Int} (b : Hb K ⟨H, some s, cc, O, lk, lk⟩ H) (x : Xs s H H') (S0 : StX K H s cc.cc ns) (S : StX K H' s cc.cc ns) : Hb K ⟨H, some s, cc, O, lk, lk⟩ H' := by
  obtain ⟨n, l, m, S4⟩ := S
  obtain ⟨n0, l0, m0, S40⟩ := S0
  have th : ∀ a, H a ≠ none → H' a ≠ none := fun a h => by
    by_cases e : a = s
    · rw [e, S4.st]; exact fun z => nomatch z
    · cases q : H a with
      | none => exact absurd q h
      | some o => rw [x a o e q]; exact fun z => nomatch z
  refine ⟨⟨fun a o n h => .inl (x a o (fun e => n (by rw [e]; exact .inl rfl)) h), th⟩, id, b.sO, fun a z => th a (b.dom a z), ⟨ns, n, l, m, S4⟩, fun t ht => ?_⟩
  have hs := S40.st
  obtain ⟨ps, h1, h2, h3⟩ := b.stt.2 t ht
  refine ⟨ps, x _ _ (fun e => by rw [e, hs] at h1; cases h1) h1, h2, fun pos cv hc => ?_⟩
  obtain ⟨c, e1, e2⟩ := h3 pos cv hc
  exact ⟨c, e1, x _ _ (fun e => by rw [e, hs] at e2; cases e2) e2⟩
def RTake : Rd3 := fun ds P _ => ∃ many : Int, ds = [.st, .int many] ∧ (0 < many ∧ many ≤ 100000) ∧ ∀ d : Int, 0 ≤ d → d < many → P (.int d)
theorem w_take (T : Txt P K mg) : FnOk P w K mg base CX0 2 T.a_take T.d_take ["_law_state", "_law_many"] (spW K false RTake) := fn_mono (ok_take T) fun vs H Q E h => by
  obtain ⟨so, cc, O, ds, P, xe, hb, rs, ⟨many, rfl, ⟨h1, h2⟩, hP⟩, hQ, _⟩ := h
  obtain ⟨x, y, rfl, r1, r2⟩ := two_rv rs
  cases int_rv r2
  obtain ⟨s, ns, rfl, rfl, S⟩ := stt_of r1 hb.stt
  exact ⟨s, cc.cc, ns, many, rfl, h1, h2, S, fun d H' h0 h3 x S' => hQ _ _ H' (hP d h0 h3) (hb_draw hb x S S') (.int d)⟩
end
end Lw
namespace Lw
open PySem PySem.Spec PyProof.Rows L2 Evl Wv
section
variable {P : Program} {w : World} {K : PySem.W.Frag} {mg : Str → Option Value} {base : Heap}
/-! ### draws from lists -/
theorem pop_perm : ∀ (ls : List Dt) {j : Nat} (h : j < ls.length), ([ls[j]] ++ ls.eraseIdx j).Perm ls
  | a :: l, 0, _ => List.Perm.refl _
  | a :: l, j + 1, h => by
    have ih := pop_perm l (j := j) (by simpa using h)
    have e : [(a :: l)[j + 1]] ++ (a :: l).eraseIdx (j + 1) = l[j]'(by simpa using h) :: a :: l.eraseIdx j := rfl
    rw [e]
    exact (List.Perm.swap _ _ _).trans (List.Perm.cons a ih)
def ROne : Rd3 := fun ds P _ => ∃ d xs, ds = [.st, d] ∧ itL d = some xs ∧ (0 < xs.length ∧ xs.length ≤ 20000) ∧ ∀ (i : Nat) x, xs[i]? = some x → P x
theorem w_one (T : Txt P K mg) : FnOk P w K mg base CX0 3 T.a_one T.d_one ["_law_state", "_law_things"] (spW K false ROne) := by
  refine T.F_one.ok sc_one (fun vs H Q E h => w_len 2 h fun _ _ _ ⟨_, _, e, _⟩ => by rw [e]; rfl) (fun cdv A outer s H vs Q E hr h => ⟨_, PSs.nox (pss_one (ps_ret (pe_ix (uIxA K (hu64 hr)) (pv 1) (pe_call (w_take T) (hr.mono (by omega)) rfl T.g_take T.F_take.kp T.b_take .nil pass0 (pa_cons (pv 0) (pa_cons (pe_callB (u_lenA K) rfl T.n_len (by decide +kernel) (pa_cons (pv 1) pa_nil)) pa_nil))) (fun _ _ => rfl)))), w_start h 2 rfl fun ds P xe ⟨d, xs, e, hx, ⟨h1, h2⟩, p⟩ => ?_⟩)
  subst e
  refine ⟨Nat.le_of_ble_eq_true rfl, ?_⟩
  repeat' (first | (with_reducible show Et _ _ _ _; first | with_reducible refine et_popAt (by with_unfolding_all rfl) ?_ | with_reducible refine et_var (by with_unfolding_all rfl) ?_ | with_reducible refine et_int ?_ | with_reducible refine et_str ?_ | with_reducible refine et_bl ?_ | with_reducible refine et_non ?_ | with_reducible refine et_andV ?_ | with_reducible refine et_orV ?_ | with_reducible refine et_notV ?_ | with_reducible refine et_if ?_ | with_reducible refine et_isStr ?_ | with_reducible refine et_isInt ?_ | with_reducible refine et_isBool ?_ | with_reducible refine et_isDict ?_ | with_reducible refine et_isList ?_ | with_reducible refine et_isTuple ?_ | with_reducible refine et_isLT ?_ | with_reducible refine et_tup ?_ | with_reducible refine et_neg ?_ | with_reducible refine et_ixO (by with_unfolding_all rfl) ?_ | with_reducible refine et_opL (by first | exact rop_ix | exact rop_eq | exact rop_ne | exact rop_in | exact rop_ni | exact rop_add | exact rop_sub | exact rop_mul | exact rop_lt | exact rop_le | exact rop_gt | exact rop_ge | exact rop_mod | exact rop_div | exact rop_isN | exact rop_notN) (by with_unfolding_all rfl) ?_ | with_reducible refine et_opRo (by first | exact rop_ix | exact rop_eq | exact rop_ne | exact rop_in | exact rop_ni | exact rop_add | exact rop_sub | exact rop_mul | exact rop_lt | exact rop_le | exact rop_gt | exact rop_ge | exact rop_mod | exact rop_div | exact rop_isN | exact rop_notN) (by with_unfolding_all rfl) ?_ | with_reducible refine et_op (by first | exact rop_ix | exact rop_eq | exact rop_ne | exact rop_in | exact rop_ni | exact rop_add | exact rop_sub | exact rop_mul | exact rop_lt | exact rop_le | exact rop_gt | exact rop_ge | exact rop_mod | exact rop_div | exact rop_isN | exact rop_notN) ?_ | with_reducible refine et_cbO (by first | exact rcl_len | exact rcl_int | exact rcl_sum | exact rcl_max | exact rcl_min | exact rcl_all | exact rcl_any) (by with_unfolding_all rfl) ?_ | with_reducible refine et_cb (by first | exact rcl_len | exact rcl_int | exact rcl_sum | exact rcl_max | exact rcl_min | exact rcl_all | exact rcl_any) ?_ | with_reducible refine et_chain (by first | exact rop_ix | exact rop_eq | exact rop_ne | exact rop_in | exact rop_ni | exact rop_add | exact rop_sub | exact rop_mul | exact rop_lt | exact rop_le | exact rop_gt | exact rop_ge | exact rop_mod | exact rop_div | exact rop_isN | exact rop_notN) (by first | exact rop_ix | exact rop_eq | exact rop_ne | exact rop_in | exact rop_ni | exact rop_add | exact rop_sub | exact rop_mul | exact rop_lt | exact rop_le | exact rop_gt | exact rop_ge | exact rop_mod | exact rop_div | exact rop_isN | exact rop_notN) ?_ | with_reducible refine et_dget2 ?_ | with_reducible refine et_call0 nolk ?_ | with_reducible refine et_call0 samelk ?_ | with_reducible refine et_sl ?_) | (with_reducible show Wd _ _ _ _; first | with_reducible refine wd_seq ?_ | with_reducible refine wd_if ?_ | with_reducible refine wd_ret ?_ | with_reducible refine wd_next ?_ | with_reducible refine wd_raise ?_) | (with_reducible show Ea _ _ _ _; first | with_reducible refine ea_nil ?_ | with_reducible refine ea_cons ?_) | (with_reducible show Eb _ _ _ _; first | with_reducible refine eb_or ?_ | with_reducible refine eb_and ?_ | with_reducible refine eb_not ?_ | with_reducible refine eb_B ?_ | with_reducible refine eb_test ?_) | (with_reducible show Eo _ _ _ _; first | with_reducible refine eo_none ?_ | with_reducible refine eo_some ?_) | with_reducible refine isTyI (by first | with_unfolding_all rfl | assumption | exact pur_ok (by assumption)) ?_ | with_reducible refine iteT ?_ | with_reducible refine iteF ?_ | with_reducible refine bt (by first | with_unfolding_all rfl | assumption) ?_ | with_reducible refine bf (by first | with_unfolding_all rfl | assumption) ?_ | with_reducible refine nt (by first | with_unfolding_all rfl | assumption) ?_ | with_reducible refine nf (by first | with_unfolding_all rfl | assumption) ?_ | with_reducible refine fin_s ?_ | with_reducible refine fni_s ?_ | with_reducible refine fx0 (by first | with_unfolding_all rfl | assumption) ?_ | with_reducible refine fx1 (by first | with_unfolding_all rfl | assumption) ?_ | with_reducible refine fx2 (by first | with_unfolding_all rfl | assumption) ?_ | with_reducible refine fxlen (by first | with_unfolding_all rfl | assumption) ?_ | with_reducible refine fxit (by first | with_unfolding_all rfl | assumption) ?_ | with_reducible refine feq_i ?_ | with_reducible refine feq_s ?_ | with_reducible refine fne_i ?_ | with_reducible refine fne_s ?_ | with_reducible refine r1_i (by first | with_unfolding_all rfl | assumption | exact pur_ok (by assumption)) ?_ | with_reducible refine sclI (by with_unfolding_all rfl) ?_ | with_reducible refine lenI (by with_unfolding_all rfl) ?_ | with_reducible refine eI ?_)
  refine ⟨_, rfl, ⟨by omega, by omega⟩, fun k h0 h3 => ?_⟩
  obtain ⟨j, rfl⟩ := Int.eq_ofNat_of_zero_le h0
  have hj : j < xs.length := by omega
  exact fxN (x := xs[j]) hx (by simp [hj]) (p j _ (by simp [hj]))
/-- things in some order -/
def RMix : Rd3 := fun ds P _ => ∃ d xs, ds = [.st, d] ∧ itL d = some xs ∧ (xs.length < 20000 ∧ dats xs = true ∧ deps xs < 50) ∧ ∀ ys : List Dt, ys.Perm xs → P (.lst ys)
theorem w_mix (T : Txt P K mg) : FnOk P w K mg base CX0 3 T.a_mix T.d_mix ["_law_state", "_law_things"] (spW K false RMix) := by
  refine T.F_mix.ok sc_mix (fun vs H Q E h => w_len 2 h fun _ _ _ ⟨_, _, e, _⟩ => by rw [e]; rfl) (fun cdv A outer s H vs Q E hr h => ⟨_, PSs.nox (pss_cons (ps_par (i := 2) (j := 3) rfl sc_mix.nd rfl rfl (by decide) rfl rfl (pa_cons (pe_callTy (u_listA K rfl) rfl T.n_list (by decide +kernel) (pa_cons (pv 1) pa_nil)) (pa_cons (pe_lst pa_nil) pa_nil)) rfl rfl) (pss_cons (ps_while PassesOwn.never (pt_cmpR (uNe K (hu64 hr)) (pv 2) (pe_lst pa_nil) (nomark _)) (pss_one (ps_expr (pe_bm PySem.F.plainAttrs_list PySem.F.slot_list_append PySem.F.type_list_append mt_append (pv 3) (pa_cons (pe_bm PySem.F.plainAttrs_list PySem.F.slot_list_pop PySem.F.type_list_pop mt_popAt (pv 2) (pa_cons (pe_call (w_take T) (hr.mono (by omega)) rfl T.g_take T.F_take.kp T.b_take .nil pass0 (pa_cons (pv 0) (pa_cons (pe_callB (u_lenA K) rfl T.n_len (by decide +kernel) (pa_cons (pv 2) pa_nil)) pa_nil))) pa_nil)) pa_nil))))) (pss_one (ps_ret (pv 3))))), w_start h 4 rfl fun ds P xe ⟨d, xs, e, hx, ⟨h2, hd1, hd2⟩, p⟩ => ?_⟩)
  subst e
  refine ⟨Nat.le_of_ble_eq_true rfl, ?_⟩
  have hl : ∀ k : Dt → Prop, k (.lst xs) → fList d k := fun k z => by
    cases d with
    | lst ys => cases hx; exact z
    | tup ys => cases hx; exact z
    | _ => cases hx
  refine wd_seq (wd_parOO (ef_cb rcf_list (et_var rfl (hl _ (ef_lst (ea_nil ⟨Nat.zero_le _, ?_⟩))))))
  refine wd_seq (wd_while (fun m e => ∃ fs ls : List Dt, e = [.v .st, .v d, .own (.lst ls), .own (.lst fs)] ∧ (fs ++ ls).Perm xs ∧ m = ls.length) xs.length ⟨[], xs, rfl, List.Perm.refl _, rfl⟩ ?_)
  rintro m e ⟨fs, ls, rfl, hp, rfl⟩
  have hlen := hp.length_eq
  rw [List.length_append] at hlen
  have hdl : dats ls = true := dats_of fun x hm => dats_mem hd1 (hp.mem_iff.mp (List.mem_append_right _ hm))
  have hpl : deps ls < 50 := by
    have := deps_le (n := 49) (xs := ls) fun x hm => by have := dep_mem (hp.mem_iff.mp (List.mem_append_right _ hm)); omega
    omega
  refine eb_test (et_opL rop_ne rfl (Ef.et (ef_lst (ea_nil ⟨Nat.zero_le _, _, rfl, fne_nil hdl hpl ⟨rfl, v2 (fun h => ?_) fun h => ?_⟩⟩))))
  · have h0 : 0 < ls.length := by cases ls with
      | nil => cases h
      | cons => exact Nat.succ_pos _
    refine wd_app rfl (et_popAt rfl (et_call0 nolk (ea_cons (et_var rfl (ea_cons (et_cbO rcl_len rfl ⟨rfl, ea_nil ?_⟩))))))
    refine ⟨_, rfl, ⟨by omega, by omega⟩, fun k k0 k1 => ?_⟩
    obtain ⟨j, rfl⟩ := Int.eq_ofNat_of_zero_le k0
    have hj : j < ls.length := by omega
    refine ⟨j, ls, ls[j], rfl, rfl, by simp [hj], fs, rfl, by simp only [Zz]; omega, ls.length - 1, by omega, fs ++ [ls[j]], ls.eraseIdx j, rfl, ?_, ?_⟩
    · rw [List.append_assoc]
      exact ((pop_perm ls hj).append_left fs).trans hp
    · rw [List.length_eraseIdx, if_pos hj]
  · have h0 : ls = [] := by cases ls with
      | nil => rfl
      | cons => cases h
    subst h0
    rw [List.append_nil] at hp
    exact wd_ret (et_own rfl (p fs hp))
end
end Lw
namespace Lw
open PySem PySem.Spec PyProof.Rows L2 Evl Wv
set_option hygiene false in
local macro_rules
  | `(tactic| nofun) => `(tactic| repeat' (first | (with_reducible show Et _ _ _ _; first | with_reducible refine et_popAt (by with_unfolding_all rfl) ?_ | with_reducible refine et_var (by with_unfolding_all rfl) ?_ | with_reducible refine et_int ?_ | with_reducible refine et_str ?_ | with_reducible refine et_bl ?_ | with_reducible refine et_non ?_ | with_reducible refine et_andV ?_ | with_reducible refine et_orV ?_ | with_reducible refine et_notV ?_ | with_reducible refine et_if ?_ | with_reducible refine et_isStr ?_ | with_reducible refine et_isInt ?_ | with_reducible refine et_isBool ?_ | with_reducible refine et_isDict ?_ | with_reducible refine et_isList ?_ | with_reducible refine et_isTuple ?_ | with_reducible refine et_isLT ?_ | with_reducible refine et_tup ?_ | with_reducible refine et_neg ?_ | with_reducible refine et_ixO (by with_unfolding_all rfl) ?_ | with_reducible refine et_opL (by first | exact rop_ix | exact rop_eq | exact rop_ne | exact rop_in | exact rop_ni | exact rop_add | exact rop_sub | exact rop_mul | exact rop_lt | exact rop_le | exact rop_gt | exact rop_ge | exact rop_mod | exact rop_div | exact rop_isN | exact rop_notN) (by with_unfolding_all rfl) ?_ | with_reducible refine et_opRo (by first | exact rop_ix | exact rop_eq | exact rop_ne | exact rop_in | exact rop_ni | exact rop_add | exact rop_sub | exact rop_mul | exact rop_lt | exact rop_le | exact rop_gt | exact rop_ge | exact rop_mod | exact rop_div | exact rop_isN | exact rop_notN) (by with_unfolding_all rfl) ?_ | with_reducible refine et_op (by first | exact rop_ix | exact rop_eq | exact rop_ne | exact rop_in | exact rop_ni | exact rop_add | exact rop_sub | exact rop_mul | exact rop_lt | exact rop_le | exact rop_gt | exact rop_ge | exact rop_mod | exact rop_div | exact rop_isN | exact rop_notN) ?_ | with_reducible refine et_cbO (by first | exact rcl_len | exact rcl_int | exact rcl_sum | exact rcl_max | exact rcl_min | exact rcl_all | exact rcl_any) (by with_unfolding_all rfl) ?_ | with_reducible refine et_cb (by first | exact rcl_len | exact rcl_int | exact rcl_sum | exact rcl_max | exact rcl_min | exact rcl_all | exact rcl_any) ?_ | with_reducible refine et_chain (by first | exact rop_ix | exact rop_eq | exact rop_ne | exact rop_in | exact rop_ni | exact rop_add | exact rop_sub | exact rop_mul | exact rop_lt | exact rop_le | exact rop_gt | exact rop_ge | exact rop_mod | exact rop_div | exact rop_isN | exact rop_notN) (by first | exact rop_ix | exact rop_eq | exact rop_ne | exact rop_in | exact rop_ni | exact rop_add | exact rop_sub | exact rop_mul | exact rop_lt | exact rop_le | exact rop_gt | exact rop_ge | exact rop_mod | exact rop_div | exact rop_isN | exact rop_notN) ?_ | with_reducible refine et_dget2 ?_ | with_reducible refine et_call0 nolk ?_ | with_reducible refine et_call0 samelk ?_ | with_reducible refine et_sl ?_) | (with_reducible show Wd _ _ _ _; first | with_reducible refine wd_seq ?_ | with_reducible refine wd_if ?_ | with_reducible refine wd_ret ?_ | with_reducible refine wd_next ?_ | with_reducible refine wd_raise ?_) | (with_reducible show Ea _ _ _ _; first | with_reducible refine ea_nil ?_ | with_reducible refine ea_cons ?_) | (with_reducible show Eb _ _ _ _; first | with_reducible refine eb_or ?_ | with_reducible refine eb_and ?_ | with_reducible refine eb_not ?_ | with_reducible refine eb_B ?_ | with_reducible refine eb_test ?_) | (with_reducible show Eo _ _ _ _; first | with_reducible refine eo_none ?_ | with_reducible refine eo_some ?_) | with_reducible refine isTyI (by first | with_unfolding_all rfl | assumption | exact pur_ok (by assumption)) ?_ | with_reducible refine iteT ?_ | with_reducible refine iteF ?_ | with_reducible refine bt (by first | with_unfolding_all rfl | assumption) ?_ | with_reducible refine bf (by first | with_unfolding_all rfl | assumption) ?_ | with_reducible refine nt (by first | with_unfolding_all rfl | assumption) ?_ | with_reducible refine nf (by first | with_unfolding_all rfl | assumption) ?_ | with_reducible refine fin_s ?_ | with_reducible refine fni_s ?_ | with_reducible refine fx0 (by first | with_unfolding_all rfl | assumption) ?_ | with_reducible refine fx1 (by first | with_unfolding_all rfl | assumption) ?_ | with_reducible refine fx2 (by first | with_unfolding_all rfl | assumption) ?_ | with_reducible refine fxlen (by first | with_unfolding_all rfl | assumption) ?_ | with_reducible refine fxit (by first | with_unfolding_all rfl | assumption) ?_ | with_reducible refine feq_i ?_ | with_reducible refine feq_s ?_ | with_reducible refine fne_i ?_ | with_reducible refine fne_s ?_ | with_reducible refine r1_i (by first | with_unfolding_all rfl | assumption | exact pur_ok (by assumption)) ?_ | with_reducible refine sclI (by with_unfolding_all rfl) ?_ | with_reducible refine lenI (by with_unfolding_all rfl) ?_ | with_reducible refine eI ?_))
section
variable {P : Program} {w : World} {K : PySem.W.Frag} {mg : Str → Option Value} {base : Heap}
/-! ### parts of drawn nets -/
def arT : List (Str × Int) := [("f", 2), ("g", 1), ("h", 2), ("k", 1), ("m", 3), ("w", 4)]
def RArity : Rd3 := fun ds P _ => ∃ z n, ds = [.str z] ∧ (z, n) ∈ arT ∧ P (.int n)
theorem w_arity (T : Txt P K mg) : FnOk P w K mg base CX0 1 T.a_arity T.d_arity ["_law_f"] (spW K false RArity) := by
  refine T.F_arity.ok sc_arity (fun vs H Q E h => w_len 1 h fun _ _ _ ⟨_, _, e, _⟩ => by rw [e]; rfl) (fun cdv A outer s H vs Q E hr h => ⟨_, PSs.nox (pss_one (ps_ret (pe_ix (uIxA K (hu64 hr)) (pe_disp (pps_cons pe_str pe_int (pps_cons pe_str pe_int (pps_cons pe_str pe_int (pps_cons pe_str pe_int (pps_cons pe_str pe_int (pps_cons pe_str pe_int pps_nil)))))) rfl rfl (by decide) (by decide)) (pv 0) (fun _ _ => rfl)))), w_start h 1 rfl fun ds P xe ⟨z, n, e, hm, p⟩ => ?_⟩)
  subst e
  refine ⟨Nat.le_of_ble_eq_true rfl, ?_⟩
  refine wd_ret (et_op rop_ix (Ef.et (ef_disp arT rfl (by decide) (et_var rfl ?_))))
  unfold arT at hm
  iterate 6
    rcases List.mem_cons.mp hm with e | hm
    · cases e; exact ⟨_, rfl, p⟩
  cases hm
theorem dats_str {l : List Str} (h : l.all PyData.strOk = true) : dats (l.map .str) = true := dats_of fun x hx => by
  obtain ⟨z, hz, rfl⟩ := List.mem_map.mp hx
  unfold dat
  exact List.all_eq_true.mp h z hz
theorem dep_str (z : Str) : dep (.str z) = 0 := by unfold dep; rfl
theorem deps_str (l : List Str) : deps (l.map .str) = 0 := Nat.le_zero.mp (deps_le fun x hx => by
  obtain ⟨z, hz, rfl⟩ := List.mem_map.mp hx
  rw [dep_str]
  exact Nat.le_refl _)
def unS : Dt → Option Str
  | .str z => some z
  | _ => none
theorem perm_str {ys : List Dt} {l : List Str} (h : ys.Perm (l.map .str)) : ∃ l' : List Str, l'.Perm l ∧ ys = l'.map .str := by
  refine ⟨ys.filterMap unS, ?_, ?_⟩
  · have := h.filterMap unS
    rw [List.filterMap_map] at this
    have e : (unS ∘ Dt.str) = some := rfl
    rw [e, List.filterMap_some] at this
    exact this
  · have all : ∀ y ∈ ys, ∃ z, y = .str z := fun y hy => by
      obtain ⟨z, _, e⟩ := List.mem_map.mp (h.mem_iff.mp hy)
      exact ⟨z, e.symm⟩
    clear h
    induction ys with
    | nil => rfl
    | cons y ys ih =>
      obtain ⟨z, rfl⟩ := all y (List.mem_cons_self ..)
      rw [List.filterMap_cons, show unS (.str z) = some z from rfl]
      simp only [List.map_cons]
      rw [← ih fun y hy => all y (List.mem_cons_of_mem _ hy)]
theorem ctD_to (ds : List Dt) (n : Nat) : ctD ds none (some (n : Int)) = ds.take n := by
  unfold ctD
  rw [HT.sIx_none, HT.sIx_nat, List.drop_zero, Nat.sub_zero]
  by_cases h : n ≤ ds.length
  · rw [Nat.min_eq_left h]
  · rw [Nat.min_eq_right (by omega), List.take_of_length_le (Nat.le_refl _), List.take_of_length_le (by omega)]
/-- names of boxes -/
def bxN : List Str := ["a", "b", "n", "p", "q", "s", "x", "f", "aa"]
def RNames : Rd3 := fun ds P _ => ∃ many : Nat, ds = [.st, .int many] ∧ many ≤ 9 ∧ ∀ ns : List Str, ns.Nodup → ns.length = many → (∀ n ∈ ns, n ∈ bxN) → P (.lst (ns.map .str))
theorem w_names (T : Txt P K mg) : FnOk P w K mg base CX0 5 T.a_names T.d_names ["_law_state", "_law_many"] (spW K false RNames) := by
  refine T.F_names.ok sc_names (fun vs H Q E h => w_len 2 h fun _ _ _ ⟨_, e, _⟩ => by rw [e]; rfl) (fun cdv A outer s H vs Q E hr h => ⟨_, PSs.nox (pss_one (ps_ret (pe_slice (uSlA K) (pe_call (w_mix T) (hr.mono (by omega)) rfl T.g_mix T.F_mix.kp T.b_mix .nil pass0 (pa_cons (pv 0) (pa_cons (pe_lst (pa_cons pe_str (pa_cons pe_str (pa_cons pe_str (pa_cons pe_str (pa_cons pe_str (pa_cons pe_str (pa_cons pe_str (pa_cons pe_str (pa_cons pe_str pa_nil)))))))))) pa_nil))) po_none (po_some (pv 1))))), w_start h 2 rfl fun ds P xe ⟨many, e, hm, p⟩ => ?_⟩)
  subst e
  refine ⟨Nat.le_of_ble_eq_true rfl, ?_⟩
  refine wd_ret (et_sl (et_call0 nolk (ea_cons (et_var rfl (ea_cons (Ef.et (ef_lst ?_)))))))
  nofun
  refine ⟨_, bxN.map .str, rfl, rfl, ⟨by decide, dats_str (by decide +kernel), by rw [deps_str]; decide⟩, fun ys hy => eo_none (eo_some (et_var rfl ⟨_, rfl, ?_⟩))⟩
  obtain ⟨l, hl, rfl⟩ := perm_str hy
  show P (.lst (ctD (l.map .str) none (some (many : Int))))
  rw [ctD_to, ← List.map_take]
  have hlen : l.length = 9 := hl.length_eq
  exact p _ ((hl.nodup_iff.mpr (by decide)).sublist (List.take_sublist ..)) (by rw [List.length_take]; omega) fun n hn => hl.mem_iff.mp (List.mem_of_mem_take hn)
def W5 : List Dt := [.str "c", .str "d", .str "e", .str "x", .str "f"]
mutual
/-- how many parts a term has -/
def szB : Dt → Nat
  | .tup xs => 1 + szBs xs
  | _ => 1
def szBs : List Dt → Nat
  | [] => 0
  | x :: xs => szB x + szBs xs
end
/-- a small start word -/
def cs (t : Dt) : Bool := cg 4 t && Nat.ble (szB t) 16
theorem cs_cg4 {t : Dt} (h : cs t = true) : cg 4 t = true := (Bool.and_eq_true_iff.mp h).1
theorem cs_cg {t : Dt} (h : cs t = true) : cg 7 t = true := cg_mono (cs_cg4 h) (by decide)
theorem cs_sz {t : Dt} (h : cs t = true) : szB t ≤ 16 := Nat.le_of_ble_eq_true (Bool.and_eq_true_iff.mp h).2
theorem w5_ok : ∀ w ∈ W5, cs w = true := List.all_eq_true.mp (by decide +kernel)
def t6 (w : Dt) : List Dt := [.tup [.str "g", w], .tup [.str "f", w, .str "c"], .tup [.str "k", .tup [.str "g", .str "d"]], .tup [.str "x", w]] ++ [.tup [.str "q", w, .str "c", .str "d", .str "c"], .tup [.str "f", .tup [.str "f", w, .str "d"], .tup [.str "g", .str "c"]]]
theorem t6_ok : ∀ w ∈ W5, ∀ t ∈ t6 w, cs t = true := fun w hw => List.all_eq_true.mp (List.all_eq_true.mp (show (W5.all fun w => (t6 w).all cs) = true by decide +kernel) w hw)
/-- start words of a net: names alone, where it is plain -/
def csP : Bool → Dt → Bool
  | true, t => cs t && isS t
  | false, t => cs t
theorem csP_cs {pl : Bool} {t : Dt} (h : csP pl t = true) : cs t = true := by
  cases pl with
  | true => exact (Bool.and_eq_true_iff.mp h).1
  | false => exact h
theorem w5_okP (pl : Bool) : ∀ w ∈ W5, csP pl w = true := by cases pl <;> exact List.all_eq_true.mp (by decide +kernel)
/-- start words: names and terms -/
def RStarts : Rd3 := fun ds P _ => ∃ (many : Nat) (pl : Bool), ds = [.st, .int many, .bl pl] ∧ many ≤ 20 ∧ ∀ ts : List Dt, ts.length = many → (∀ t ∈ ts, csP pl t = true) → P (.lst ts)
theorem w_starts (T : Txt P K mg) : FnOk P w K mg base CX0 5 T.a_starts T.d_starts ["_law_state", "_law_many", "_law_is_plain"] (spW K false RStarts) := by
  refine T.F_starts.ok sc_starts (fun vs H Q E h => w_len 3 h fun _ _ _ ⟨_, _, e, _⟩ => by rw [e]; rfl) (fun cdv A outer s H vs Q E hr h => ⟨_, PSs.nox (pss_cons (ps_set (i := 3) sc_starts.nd rfl (Or.inl rfl) (pe_lst pa_nil)) (pss_cons (ps_for PassesOwn.never rfl (pi_range1 rfl T.n_range (pa_cons (pv 1) pa_nil)) (pg_name (i := 4) sc_starts.nd rfl (Or.inl rfl)) (pss_cons (ps_set (i := 5) sc_starts.nd rfl (Or.inl rfl) (pe_call (w_one T) (hr.mono (by omega)) rfl T.g_one T.F_one.kp T.b_one .nil pass0 (pa_cons (pv 0) (pa_cons (pe_lst (pa_cons pe_str (pa_cons pe_str (pa_cons pe_str (pa_cons pe_str (pa_cons pe_str pa_nil)))))) pa_nil)))) (pss_cons (ps_if (PW.pt (pw_and (pt_not (pt_val (pv 2))) (pw_and1 (pt_cmpR (uEq K (hu64 hr)) (pe_call (w_take T) (hr.mono (by omega)) rfl T.g_take T.F_take.kp T.b_take .nil pass0 (pa_cons (pv 0) (pa_cons pe_int pa_nil))) pe_int (nomark _))))) (pss_cons (ps_set (i := 6) sc_starts.nd rfl (Or.inl rfl) (pe_lst (pa_cons (pe_tup (pa_cons pe_str (pa_cons (pv 5) pa_nil))) (pa_cons (pe_tup (pa_cons pe_str (pa_cons (pv 5) (pa_cons pe_str pa_nil)))) (pa_cons (pe_tup (pa_cons pe_str (pa_cons (pe_tup (pa_cons pe_str (pa_cons pe_str pa_nil))) pa_nil))) (pa_cons (pe_tup (pa_cons pe_str (pa_cons (pv 5) pa_nil))) pa_nil)))))) (pss_one (ps_set (i := 5) sc_starts.nd rfl (Or.inl rfl) (pe_call (w_one T) (hr.mono (by omega)) rfl T.g_one T.F_one.kp T.b_one .nil pass0 (pa_cons (pv 0) (pa_cons (pe_op (uAdd K) (pv 6) (pe_lst (pa_cons (pe_tup (pa_cons pe_str (pa_cons (pv 5) (pa_cons pe_str (pa_cons pe_str (pa_cons pe_str pa_nil)))))) (pa_cons (pe_tup (pa_cons pe_str (pa_cons (pe_tup (pa_cons pe_str (pa_cons (pv 5) (pa_cons pe_str pa_nil)))) (pa_cons (pe_tup (pa_cons pe_str (pa_cons pe_str pa_nil))) pa_nil)))) pa_nil)))) pa_nil)))))) pss_nil) (pss_one (ps_expr (pe_bm PySem.F.plainAttrs_list PySem.F.slot_list_append PySem.F.type_list_append mt_append (pv 3) (pa_cons (pv 5) pa_nil))))))) (pss_one (ps_ret (pv 3))))), w_start h 7 rfl fun ds P xe ⟨many, pl, e, hm, p⟩ => ?_⟩)
  subst e
  refine ⟨Nat.le_of_ble_eq_true rfl, ?_⟩
  refine wd_seq (wd_asgO (ef_lst (ea_nil ⟨Nat.zero_le _, ?_⟩)))
  refine wd_seq (wd_for (ei_rng1 (ea_cons (et_var rfl (ea_nil ⟨_, rfl, by simp only [Zz]; omega, by omega, ?_⟩)))))
  have hln : (rngD 0 ((many : Int)).toNat).length = many := by rw [rngD_len]; omega
  refine ⟨fun i e => ∃ (ts : List Dt) (s4 s5 s6 : Sl), e = [.v .st, .v (.int many), .v (.bl pl), .own (.lst ts), s4, s5, s6] ∧ ts.length = i ∧ ∀ t ∈ ts, csP pl t = true, ⟨[], .no, .no, .no, rfl, rfl, fun t h => by cases h⟩, ?_, ?_⟩
  · rintro i d e hi ⟨ts, s4, s5, s6, rfl, hl, hg⟩
    have hlt : i < many := by have := (List.getElem?_eq_some_iff.mp hi).1; rw [hln] at this; exact this
    refine tg_name (wd_seq (wd_asg (et_call0 nolk (ea_cons (et_var rfl (ea_cons (Ef.et (ef_lst ?_))))))))
    nofun
    refine ⟨_, W5, rfl, rfl, ⟨by decide, by decide⟩, fun j w hw => ?_⟩
    have hw5 : w ∈ W5 := List.mem_of_getElem? hw
    have app : ∀ {bk : List Sl → Prop} (t : Dt) (s4 s5 s6 : Sl), csP pl t = true → s5 = .v t → Wd ⟨K, E, xe, false, []⟩ [.v .st, .v (.int many), .v (.bl pl), .own (.lst ts), s4, s5, s6] (tDrop (tBM K "list" rAppend (tVar 3) (tCons (tVar 5) tNil))) { nx := fun e => ∃ (ts : List Dt) (s4 s5 s6 : Sl), e = [.v .st, .v (.int many), .v (.bl pl), .own (.lst ts), s4, s5, s6] ∧ ts.length = i + 1 ∧ ∀ t ∈ ts, csP pl t = true, ct := fun e => ∃ (ts : List Dt) (s4 s5 s6 : Sl), e = [.v .st, .v (.int many), .v (.bl pl), .own (.lst ts), s4, s5, s6] ∧ ts.length = i + 1 ∧ ∀ t ∈ ts, csP pl t = true, bk := bk, rt := P } := fun t s4 s5 s6 ht e5 => by
      subst e5
      refine wd_app rfl (et_var rfl ⟨ts, rfl, by simp only [Zz]; omega, ts ++ [t], s4, _, s6, rfl, by simp [hl], fun u hu => ?_⟩)
      rcases List.mem_append.mp hu with hu | hu
      · exact hg u hu
      · rw [List.mem_singleton.mp hu]; exact ht
    cases pl with
    | true =>
      nofun
      exact app w (.v d) _ s6 (w5_okP true w hw5) rfl
    | false =>
      nofun
      refine ⟨4, rfl, by decide, fun k h0 h1 => ?_⟩
      nofun
      refine Wv.b2 (fun hk => ?_) fun hk => ?_
      · refine wd_seq (wd_asg (Ef.et (ef_lst ?_)))
        nofun
        refine wd_asg (et_call0 nolk (ea_cons (et_var rfl (ea_cons (et_op rop_add (et_var rfl (Ef.et (ef_lst ?_))))))))
        nofun
        refine ⟨Nat.le_of_ble_eq_true rfl, ?_⟩
        nofun
        refine ⟨_, t6 w, rfl, rfl, ⟨Nat.le_of_ble_eq_true rfl, Nat.le_of_ble_eq_true rfl⟩, fun j t ht => ?_⟩
        exact app t (.v d) _ _ (t6_ok w hw5 t (List.mem_of_getElem? ht)) rfl
      · nofun
        exact app w (.v d) _ s6 (w5_ok w hw5) rfl
  · rintro e ⟨ts, s4, s5, s6, rfl, hl, hg⟩
    exact wd_ret (et_own rfl (p ts (by rw [hl, hln]) hg))
end
end Lw
namespace Lw
open PySem PySem.Spec PyProof.Rows L2 Evl Wv TL
theorem tw_at {l : List Nat} {a : Nat} (hw : ∀ c ∈ l.take a, isLt c = true) (hs : ∀ c, l[a]? = some c → isLt c = false) : l.takeWhile isLt = l.take a ∧ l.dropWhile isLt = l.drop a := by
  have := tw_app (w := l.take a) (r := l.drop a) hw (fun c hc => hs c (by rw [List.head?_drop] at hc; exact hc))
  rwa [List.take_append_drop] at this
theorem cut_to (z : Str) (a : Nat) : cutS z none (some (a : Int)) = mkS ((tl z).take a) := by
  have e : HT.sIx z.length 0 none = 0 := rfl
  unfold cutS
  rw [HT.sIx_nat, e, List.drop_zero, Nat.sub_zero]
  show mkS ((tl z).take (min a z.length)) = _
  rw [len_tl]
  congr 1
  rcases Nat.le_total a (tl z).length with h | h
  · rw [Nat.min_eq_left h]
  · rw [Nat.min_eq_right h, List.take_of_length_le (Nat.le_refl _), List.take_of_length_le h]
theorem cut_from (z : Str) (a : Nat) : cutS z (some (a : Int)) none = mkS ((tl z).drop a) := by
  have e : HT.sIx z.length z.length none = z.length := rfl
  unfold cutS
  rw [HT.sIx_nat, e]
  show mkS (((tl z).drop (min a z.length)).take (z.length - min a z.length)) = _
  rw [len_tl]
  congr 1
  rcases Nat.le_total a (tl z).length with h | h
  · rw [Nat.min_eq_left h, List.take_of_length_le (by rw [List.length_drop]; exact Nat.le_refl _)]
  · rw [Nat.min_eq_right h, List.drop_eq_nil_of_le h, List.drop_eq_nil_of_le (Nat.le_refl _), List.take_nil]
theorem sg_iff (r : List Nat) {s : Str} {k : Nat} (h : tl s = [k]) : (mkS (r.take 1) = s) ↔ r.head? = some k := by
  constructor
  · intro e
    have e := congrArg tl e
    rw [h, tl_mkS] at e
    cases r with
    | nil => cases e
    | cons c r =>
      have e : [c] = [k] := e
      cases e
      rfl
  · intro e
    cases r with
    | nil => cases e
    | cons c r =>
      cases e
      exact ext_tl h.symm
theorem sgL : tl (Str.ofString "(") = [40] := by decide +kernel
theorem sgR : tl (Str.ofString ")") = [41] := by decide +kernel
theorem sgC : tl (Str.ofString ",") = [44] := by decide +kernel
theorem RPl_stop {rp : List Nat → Option (Dt × List Nat)} {ps : List Dt} {r : List Nat} (h : ∀ c, r.head? = some c → c ≠ (if ps.isEmpty = true then 40 else 44)) : ∀ m : Nat, RPl rp m ps r = some (ps, r)
  | 0 => rfl
  | m + 1 => by
    cases r with
    | nil => rfl
    | cons c r =>
      unfold RPl
      dsimp only
      rw [if_neg (h c rfl)]
theorem RPl_go {rp : List Nat → Option (Dt × List Nat)} {ps : List Dt} {r : List Nat} {m : Nat} : RPl rp (m + 1) ps ((if ps.isEmpty = true then 40 else 44) :: r) = (match rp r with
    | none => none
    | some q => RPl rp m (ps ++ [q.1]) q.2) := by
  show (if (if ps.isEmpty = true then 40 else 44) = (if ps.isEmpty = true then 40 else 44) then _ else _) = _
  rw [if_pos rfl] <;> (cases rp r <;> rfl)
theorem RPl_mem {rp : List Nat → Option (Dt × List Nat)} {C : Dt → Prop} (h : ∀ l t r, rp l = some (t, r) → C t) : ∀ (k : Nat) (ps : List Dt) (r : List Nat) (ps' : List Dt) (r' : List Nat), RPl rp k ps r = some (ps', r') → (∀ x ∈ ps, C x) → ∀ x ∈ ps', C x
  | 0, ps, r, ps', r', e, hp => by cases e; exact hp
  | k + 1, ps, [], ps', r', e, hp => by cases e; exact hp
  | k + 1, ps, c :: r1, ps', r', e, hp => by
    unfold RPl at e
    dsimp only at e
    by_cases hc : c = (if ps.isEmpty = true then 40 else 44)
    · rw [if_pos hc] at e
      cases q : rp r1 with
      | none => rw [q] at e; cases e
      | some x =>
        rw [q] at e
        refine RPl_mem h k _ _ _ _ e fun y hy => ?_
        rcases List.mem_append.mp hy with hy | hy
        · exact hp y hy
        · rw [List.mem_singleton.mp hy]; exact h _ _ _ q
    · rw [if_neg hc] at e
      cases e
      exact hp
theorem RPl_len {rp : List Nat → Option (Dt × List Nat)} : ∀ (k : Nat) (ps : List Dt) (r : List Nat) (ps' : List Dt) (r' : List Nat), RPl rp k ps r = some (ps', r') → ps.length ≤ ps'.length
  | 0, ps, r, ps', r', e => by cases e; exact Nat.le_refl _
  | k + 1, ps, [], ps', r', e => by cases e; exact Nat.le_refl _
  | k + 1, ps, c :: r1, ps', r', e => by
    unfold RPl at e
    dsimp only at e
    by_cases hc : c = (if ps.isEmpty = true then 40 else 44)
    · rw [if_pos hc] at e
      cases q : rp r1 with
      | none => rw [q] at e; cases e
      | some x =>
        rw [q] at e
        have := RPl_len k _ _ _ _ e
        rw [List.length_append] at this
        omega
    · rw [if_neg hc] at e
      cases e
      exact Nat.le_refl _
/-- what is read is a ground term -/
theorem RP_cg : ∀ (n : Nat) (l : List Nat) (t : Dt) (r : List Nat), RP n l = some (t, r) → cg n t = true
  | 0, l, t, r, e => by cases e
  | n + 1, l, t, r, e => by
    unfold RP at e
    by_cases hw : wordD (.str (mkS (l.takeWhile isLt))) = true
    · rw [if_pos hw] at e
      cases q : l.dropWhile isLt with
      | nil =>
        rw [q] at e
        cases e
        unfold cg
        exact hw
      | cons c r1 =>
        rw [q] at e
        unfold RPw at e
        dsimp only at e
        by_cases hc : c = 40
        · rw [if_pos hc] at e
          subst hc
          cases q2 : RPl (RP n) (40 :: r1).length [] (40 :: r1) with
          | none => rw [q2] at e; cases e
          | some x =>
            obtain ⟨ps, r2⟩ := x
            rw [q2] at e
            obtain ⟨_, _, rfl, h4⟩ := RPe_suf e
            have hm := RPl_mem (C := fun x => cg n x = true) (fun l t r => RP_cg n l t r) _ _ _ _ _ q2 fun x hx => by cases hx
            have h1 : 1 ≤ ps.length := by
              have q2 : RPl (RP n) (r1.length + 1) [] (40 :: r1) = _ := q2
              have := RPl_go (rp := RP n) (ps := []) (r := r1) (m := r1.length)
              rw [show (if ([] : List Dt).isEmpty = true then 40 else 44) = 40 from rfl] at this
              rw [this] at q2
              cases q3 : RP n r1 with
              | none => rw [q3] at q2; cases q2
              | some x =>
                rw [q3] at q2
                exact RPl_len _ _ _ _ _ q2
            unfold cg
            rw [hw, decide_eq_true ⟨h1, h4⟩, Bool.true_and, Bool.true_and]
            exact List.all_eq_true.mpr hm
        · rw [if_neg hc] at e
          cases e
          unfold cg
          exact hw
    · rw [if_neg hw] at e
      cases e
def rpD (n : Nat) : Dt → Dt
  | .str z => match RP n (tl z) with
    | none => .tup [.non, .non]
    | some q => .tup [q.1, .str (mkS q.2)]
  | _ => .non
def rpPre (n : Nat) (d : Dt) : Prop := ∃ z : Str, d = .str z ∧ z.length ≤ Zz ∧ (tl z).count 40 < n
end Lw
namespace Lw
open PySem PySem.Spec PyProof.Rows L2 Evl Wv TL
theorem at_nat {xs : List Nat} {i : Nat} {x : Nat} (h : xs[i]? = some x) : atI xs (i : Int) = some x := by
  unfold atI
  rw [ixN_nat (List.getElem?_eq_some_iff.mp h).1]
  exact h
theorem ite_str {g : Gx} {env : List Sl} {a b : Str} {c : Bool} {P : Dt → List Sl → Prop} (p : P (.str (if c = true then a else b)) env) (ha : a.length ≤ Zz := by decide) (hb : b.length ≤ Zz := by decide) : isB (.bl c) fun q => if q = true then Et g env (tC (V.str a)) P else Et g env (tC (V.str b)) P := by
  rw [isB_bl]
  cases c
  · exact et_str p (by assumption)
  · exact et_str p (by assumption)
section
variable {P : Program} {w : World} {K : PySem.W.Frag} {mg : Str → Option Value} {base : Heap}
theorem w_read_part (T : Txt P K mg) (n : Nat) (hn : n < 40) : FnOk P w K mg base CX0 (n + 1) T.a_read_part T.d_read_part ["text"] (spW K false (R1 (rpPre n) (rpD n))) := by
  induction n with
  | zero => exact ⟨fun vs H Q E h => w_len 1 h fun _ _ _ ⟨_, e, _⟩ => by rw [e]; rfl, fun A outer s H args us vs Q E _ _ _ _ h => by obtain ⟨_, _, _, _, _, _, _, _, ⟨_, _, ⟨_, _, _, h⟩, _⟩, _⟩ := h; omega⟩
  | succ n ih0 =>
    have ih := ih0 (by omega)
    clear ih0
    refine T.F_read_part.ok sc_read_part (fun vs H Q E h => w_len 1 h fun _ _ _ ⟨_, e, _⟩ => by rw [e]; rfl) (fun cdv A outer s H vs Q E hr h => ⟨_, PSs.nox (pss_cons (ps_set (i := 1) sc_read_part.nd rfl (Or.inl rfl) pe_int) (pss_cons (ps_while PassesOwn.never (PW.pt (pw_and (pt_cmpR op_lt (pv 1) (pe_callB (u_lenA K) rfl T.n_len (by decide +kernel) (pa_cons (pv 0) pa_nil)) (nomark _)) (pw_and1 (pt_cmpR (uInA K (hu64 hr)) (pe_ix (uIxA K (hu64 hr)) (pv 0) (pv 1) (fun _ _ => rfl)) (pe_glob (v := .str "abcdefghijklmnopqrstuvwxyz") rfl T.h_LETTERS.choose_spec ⟨_, rfl⟩) (by with_unfolding_all rfl))))) (pss_one (ps_aug (i := 1) sc_read_part.nd rfl (Or.inl rfl) pe_int ip_add))) (pss_cons (ps_par (i := 2) (j := 3) rfl sc_read_part.nd rfl rfl (by decide) rfl rfl (pa_cons (pe_slice (uSlA K) (pv 0) po_none (po_some (pv 1))) (pa_cons (pe_slice (uSlA K) (pv 0) (po_some (pv 1)) po_none) pa_nil)) rfl rfl) (pss_cons (ps_if (pt_not (pt_val (pe_call (ok_is_word T) (hr.mono (by omega)) rfl T.g_is_word T.F_is_word.kp T.b_is_word .nil pass0 (pa_cons (pv 2) pa_nil)))) (pss_one (ps_ret (pe_tup (pa_cons pe_non (pa_cons pe_non pa_nil))))) pss_nil) (pss_cons (ps_if (pt_cmpR (uNe K (hu64 hr)) (pe_slice (uSlA K) (pv 3) po_none (po_some pe_int)) pe_str (nomark _)) (pss_one (ps_ret (pe_tup (pa_cons (pv 2) (pa_cons (pv 3) pa_nil))))) pss_nil) (pss_cons (ps_set (i := 4) sc_read_part.nd rfl (Or.inl rfl) (pe_lst pa_nil)) (pss_cons (ps_while PassesOwn.never (pt_cmpR (uEq K (hu64 hr)) (pe_slice (uSlA K) (pv 3) po_none (po_some pe_int)) (pe_ifExp (pt_cmpR (uEq K (hu64 hr)) (pv 4) (pe_lst pa_nil) (nomark _)) pe_str pe_str) (nomark _)) (pss_cons (ps_asg (pe_call ih hr rfl T.g_read_part T.F_read_part.kp T.b_read_part .nil pass0 (pa_cons (pe_slice (uSlA K) (pv 3) (po_some pe_int) po_none) pa_nil)) (pg_tupK (K := K) (n := 2) rfl (pgs_cons (pg_name (i := 5) sc_read_part.nd rfl (Or.inl rfl)) (pgs_cons (pg_name (i := 3) sc_read_part.nd rfl (Or.inl rfl)) pgs_nil)))) (pss_cons (ps_if (pt_cmpR op_isN (pv 5) pe_non (nomark _)) (pss_one (ps_ret (pe_tup (pa_cons pe_non (pa_cons pe_non pa_nil))))) pss_nil) (pss_one (ps_expr (pe_bm PySem.F.plainAttrs_list PySem.F.slot_list_append PySem.F.type_list_append mt_append (pv 4) (pa_cons (pv 5) pa_nil))))))) (pss_cons (ps_if (PW.pt (pw_or (pt_cmpR (uNe K (hu64 hr)) (pe_slice (uSlA K) (pv 3) po_none (po_some pe_int)) pe_str (nomark _)) (pw_or1 (pt_cmpR op_gt (pe_callB (u_lenA K) rfl T.n_len (by decide +kernel) (pa_cons (pv 4) pa_nil)) (pe_glob (v := .int 4) rfl T.h_MOST_PARTS.choose_spec ⟨_, rfl⟩) (nomark _))))) (pss_one (ps_ret (pe_tup (pa_cons pe_non (pa_cons pe_non pa_nil))))) pss_nil) (pss_one (ps_ret (pe_tup (pa_cons (pe_callTy (u_tupA K) rfl T.n_tuple (by decide +kernel) (pa_cons (pe_op (uAdd K) (pe_lst (pa_cons (pv 2) pa_nil)) (pv 4)) pa_nil)) (pa_cons (pe_slice (uSlA K) (pv 3) (po_some pe_int) po_none) pa_nil))))))))))))), w_start h 6 rfl fun ds P xe ⟨d, e, ⟨z, ez, hz, hc⟩, p⟩ => ?_⟩)
    subst ez
    subst e
    refine ⟨Nat.le_of_ble_eq_true rfl, ?_⟩
    have hzl : z.length = (tl z).length := len_tl z
    refine wd_seq (wd_asg (et_int ?_))
    refine wd_cut (Mid := fun e => ∃ a : Nat, e = [.v (.str z), .v (.int (a : Int)), .no, .no, .no, .no] ∧ (tl z).takeWhile isLt = (tl z).take a ∧ (tl z).dropWhile isLt = (tl z).drop a) (wd_while (fun m e => ∃ a : Nat, e = [.v (.str z), .v (.int (a : Int)), .no, .no, .no, .no] ∧ a ≤ (tl z).length ∧ m = (tl z).length - a ∧ ∀ c ∈ (tl z).take a, isLt c = true) (tl z).length ⟨0, rfl, Nat.zero_le _, rfl, fun c hc => by cases hc⟩ ?_) ?_
    · rintro m e ⟨a, rfl, ha, rfl, hw⟩
      refine eb_and (eb_test (et_op rop_lt (et_var rfl (et_cb rcl_len (ea_cons (et_var rfl (ea_nil (lenStr (Wv.b2 (fun h1 => ?_) fun h1 => ⟨a, rfl, ?_⟩)))))))))
      · have h1 := of_decide_eq_true h1
        have hlt : a < (tl z).length := by omega
        refine eb_test (et_op rop_in (et_op rop_ix (et_var rfl (et_var rfl ⟨(tl z)[a], at_nat (List.getElem?_eq_getElem hlt), et_str ⟨(tl z)[a], rfl, Wv.b2 (fun h2 => wd_aug rfl (et_int ⟨_, rfl, _, ?_, a + 1, rfl, by omega, rfl, fun c hc => ?_⟩)) fun h2 => ⟨a, rfl, tw_at hw fun c hc => ?_⟩⟩⟩))))
        · show (tl z).length - (a + 1) < (tl z).length - a
          omega
        · rw [List.take_add_one, List.getElem?_eq_getElem hlt] at hc
          rcases List.mem_append.mp hc with hc | hc
          · exact hw c hc
          · have hc : c ∈ [(tl z)[a]] := hc
            rw [List.mem_singleton.mp hc]
            exact h2
        · rw [List.getElem?_eq_getElem hlt] at hc
          cases hc
          exact h2
      · have h1 := of_decide_eq_false h1
        refine tw_at hw fun c hc => ?_
        rw [List.getElem?_eq_none (by omega)] at hc
        cases hc
    rintro e ⟨a, rfl, e1, e2⟩
    obtain ⟨W, eW⟩ : ∃ W, W = (tl z).take a := ⟨_, rfl⟩
    obtain ⟨R, eR⟩ : ∃ R, R = (tl z).drop a := ⟨_, rfl⟩
    rw [← eW] at e1
    rw [← eR] at e2
    have hRl : R.length ≤ (tl z).length := by rw [eR, List.length_drop]; omega
    have hWl : W.length ≤ (tl z).length := by rw [eW, List.length_take]; omega
    have hRc : R.count 40 ≤ n := by
      have : R.count 40 ≤ (tl z).count 40 := by rw [eR]; exact (List.drop_sublist a _).count_le 40
      omega
    refine wd_seq (wd_par (et_sl (et_var rfl (eo_none (eo_some (et_var rfl ⟨_, rfl, slS ?_⟩))))))
    rw [cut_to, ← eW]
    refine et_sl (et_var rfl (eo_some (et_var rfl ⟨_, rfl, eo_none (slS ?_)⟩)))
    rw [cut_from, ← eR]
    clear eW eR
    have p : P (rpD (n + 1) (.str z)) := p
    have eP : RP (n + 1) (tl z) = if wordD (.str (mkS W)) = true then RPw (RP n) (mkS W) R else none := by
      show (if wordD (.str (mkS ((tl z).takeWhile isLt))) = true then RPw (RP n) (mkS ((tl z).takeWhile isLt)) ((tl z).dropWhile isLt) else none) = _
      rw [e1, e2]
    unfold rpD at p
    dsimp only at p
    rw [eP] at p
    clear e1 e2 eP
    refine wd_seq (wd_if (eb_not (eb_B (et_call0 nolk (ea_cons (et_var rfl (ea_nil ⟨_, rfl, rfl, n2 (fun hw => ?_) fun hw => ?_⟩)))))))
    · rw [if_neg (by rw [hw]; exact Bool.false_ne_true)] at p
      exact wd_ret (et_tup (ea_cons (et_non (ea_cons (et_non (ea_nil ⟨Nat.le_of_ble_eq_true rfl, p⟩))))))
    rw [if_pos hw] at p
    refine wd_next (wd_seq (wd_if (eb_test (et_op rop_ne (et_sl (et_var rfl (eo_none (eo_some (et_int ⟨1, rfl, slS ?_⟩)))))))))
    rw [show cutS (mkS R) none (some 1) = mkS (R.take 1) from cut_to (mkS R) 1]
    refine et_str (fne_s (Wv.b2 (fun h1 => ?_) fun h1 => ?_))
    · have h1 : ¬ R.head? = some 40 := fun q => absurd ((sg_iff R sgL).mpr q) (by simpa using h1)
      have : RPw (RP n) (mkS W) R = some (.str (mkS W), R) := by
        cases R with
        | nil => rfl
        | cons c r => unfold RPw; dsimp only; rw [if_neg (fun q => h1 (by rw [q]; rfl))]
      rw [this] at p
      exact wd_ret (et_tup (ea_cons (et_var rfl (ea_cons (et_var rfl (ea_nil ⟨Nat.le_of_ble_eq_true rfl, p⟩))))))
    have h1 : R.head? = some 40 := (sg_iff R sgL).mp (by simpa using h1)
    obtain ⟨R1, rfl⟩ : ∃ R1, R = 40 :: R1 := by
      cases R with
      | nil => cases h1
      | cons c r => cases h1; exact ⟨r, rfl⟩
    have eP : RPw (RP n) (mkS W) (40 :: R1) = (match RPl (RP n) (40 :: R1).length [] (40 :: R1) with
      | none => none
      | some q => RPe (mkS W) q.1 q.2) := by
      unfold RPw
      dsimp only
      rw [if_pos rfl] <;> rfl
    rw [eP] at p
    clear eP
    refine wd_next (wd_seq (wd_asgO (ef_lst (ea_nil ⟨Nat.zero_le _, ?_⟩))))
    have zl4 : ∀ l : List Nat, l.length ≤ (tl z).length → (mkS l).length ≤ Zz := fun l h => by rw [len_mkS]; omega
    refine wd_cut (Mid := fun e => ∃ (ps : List Dt) (r : List Nat) (s5 : Sl), e = [.v (.str z), .v (.int (a : Int)), .v (.str (mkS W)), .v (.str (mkS r)), .own (.lst ps), s5] ∧ RPl (RP n) (40 :: R1).length [] (40 :: R1) = some (ps, r) ∧ r.length ≤ (tl z).length ∧ ps.length ≤ (tl z).length)
      (wd_while (fun m e => ∃ (ps : List Dt) (r : List Nat) (s5 : Sl), e = [.v (.str z), .v (.int (a : Int)), .v (.str (mkS W)), .v (.str (mkS r)), .own (.lst ps), s5] ∧ (∀ d, s5 ≠ Sl.own d) ∧ RPl (RP n) m ps r = RPl (RP n) (40 :: R1).length [] (40 :: R1) ∧ r.length ≤ m ∧ ps.length + r.length ≤ (tl z).length ∧ (∀ x ∈ ps, cg n x = true) ∧ r <:+ 40 :: R1 ∧ (ps.isEmpty = false → r.count 40 < n)) (40 :: R1).length
        ⟨[], 40 :: R1, .no, rfl, (fun d q => by cases q), rfl, Nat.le_refl _, by rw [List.length_nil, Nat.zero_add]; exact hRl, (fun x hx => by cases hx), List.suffix_refl _, fun q => by cases q⟩ ?_) ?_
    · rintro m e ⟨ps, r, s5, rfl, n5, eY, hm, hl, hps, hsf, hcn⟩
      refine eb_test (et_op rop_eq (et_sl (et_var rfl (eo_none (eo_some (et_int ⟨1, rfl, slS ?_⟩))))))
      rw [show cutS (mkS r) none (some 1) = mkS (r.take 1) from cut_to (mkS r) 1]
      have hdp : deps ps < 50 := by
        have := deps_le (n := 40) (xs := ps) fun x hx => by have := cg_dep (hps x hx); omega
        omega
      refine et_if (eb_test (et_opL rop_eq rfl (Ef.et (ef_lst (ea_nil ⟨Nat.zero_le _, _, rfl, feq_nil (dats_cg hps) hdp ⟨rfl, ?_⟩⟩)))))
      refine ite_str (feq_s ?_)
      have es : tl (if ps.isEmpty = true then Str.ofString "(" else Str.ofString ",") = [if ps.isEmpty = true then 40 else 44] := by
        cases ps.isEmpty
        · exact sgC
        · exact sgL
      refine Wv.b2 (fun h => ?_) fun h => ⟨ps, r, s5, rfl, ?_, by omega, by omega⟩
      · have h : r.head? = some (if ps.isEmpty = true then 40 else 44) := (sg_iff r es).mp (of_decide_eq_true h)
        obtain ⟨r1, rfl⟩ : ∃ r1, r = (if ps.isEmpty = true then 40 else 44) :: r1 := by
          cases r with
          | nil => cases h
          | cons c r => exact ⟨r, by rw [Option.some.inj h]⟩
        obtain ⟨m, rfl⟩ : ∃ k, m = k + 1 := ⟨m - 1, by simp only [List.length_cons] at hm; omega⟩
        rw [RPl_go] at eY
        have hc1 : r1.count 40 < n := by
          cases he : ps.isEmpty with
          | false =>
            have := hcn he
            rw [List.count_cons] at this
            omega
          | true =>
            have := hsf.sublist.count_le 40
            rw [he, if_pos rfl, List.count_cons_self] at this
            omega
        refine wd_seq (wd_asgT (et_call0 nolk (ea_cons (et_sl (et_var rfl (eo_some (et_int ⟨1, rfl, eo_none (slS ?_)⟩)))))))
        rw [show cutS (mkS ((if ps.isEmpty = true then 40 else 44) :: r1)) (some 1) none = mkS r1 from cut_from _ 1]
        have hr1 : r1.length ≤ (tl z).length := by simp only [List.length_cons] at hl; omega
        refine ea_nil ⟨_, rfl, ⟨mkS r1, rfl, zl4 r1 hr1, hc1⟩, ?_⟩
        have eD : rpD n (.str (mkS r1)) = match RP n r1 with
          | none => .tup [.non, .non]
          | some q => .tup [q.1, .str (mkS q.2)] := rfl
        rw [eD]
        cases q : RP n r1 with
        | none =>
          rw [q] at eY
          rw [← eY] at p
          refine tv_tup (tgs_cons (tv_name (tgs_cons (tv_name (tgs_nil ?_)))))
          exact wd_seq (wd_if (eb_test (et_op rop_isN (et_var rfl (et_non (Wv.bt rfl (wd_ret (et_tup (ea_cons (et_non (ea_cons (et_non (ea_nil ⟨Nat.le_of_ble_eq_true rfl, p⟩)))))))))))))
        | some x =>
          obtain ⟨t, r2⟩ := x
          rw [q] at eY
          have ct := RP_cg _ _ _ _ q
          obtain ⟨f1, f2⟩ := RP_suf _ _ _ _ q
          refine tv_tup (tgs_cons (tv_name (tgs_cons (tv_name (tgs_nil ?_)))))
          refine wd_seq (wd_if (eb_test (et_op rop_isN (et_var rfl (et_non ?_)))))
          simp only [List.length_cons] at hl hm
          obtain ⟨k, ek, ht⟩ := cg_inv ct
          rcases ht with ⟨y, rfl, _⟩ | ⟨y, xs, rfl, _⟩ <;>
          · refine Wv.bf rfl (wd_next (wd_app rfl (et_var rfl ⟨ps, rfl, by simp only [Zz] at hz ⊢; omega, m, Nat.lt_succ_self _, ps ++ [_], r2, .v _, rfl, (fun d q => by cases q), eY, by omega, by rw [List.length_append]; simp only [List.length_cons, List.length_nil]; omega, (fun x hx => ?_), f1.trans ((List.suffix_cons _ r1).trans hsf), fun _ => Nat.lt_of_le_of_lt (f1.sublist.count_le 40) hc1⟩)))
            rcases List.mem_append.mp hx with hx | hx
            · exact hps x hx
            · rw [List.mem_singleton.mp hx]; exact ct
      · have h : ¬ r.head? = some (if ps.isEmpty = true then 40 else 44) := fun q => of_decide_eq_false h ((sg_iff r es).mpr q)
        rw [← eY]
        exact RPl_stop (fun c hc e => h (by rw [hc, e])) m
    · rintro e ⟨ps, r, s5, rfl, eY, hl, hpl⟩
      rw [eY] at p
      have p : P (match RPe (mkS W) ps r with | none => .tup [.non, .non] | some q => .tup [q.1, .str (mkS q.2)]) := p
      have no : RPe (mkS W) ps r = none → P (.tup [.non, .non]) := fun e => by rw [e] at p; exact p
      refine wd_seq (wd_if (eb_or (eb_test (et_op rop_ne (et_sl (et_var rfl (eo_none (eo_some (et_int ⟨1, rfl, slS ?_⟩)))))))))
      rw [show cutS (mkS r) none (some 1) = mkS (r.take 1) from cut_to (mkS r) 1]
      refine et_str (fne_s (Wv.b2 (fun h => iteT ?_) fun h => ?_))
      · refine wd_ret (et_tup (ea_cons (et_non (ea_cons (et_non (ea_nil ⟨Nat.le_of_ble_eq_true rfl, no ?_⟩))))))
        have h : ¬ r.head? = some 41 := fun q => absurd ((sg_iff r sgR).mpr q) (by simpa using h)
        cases r with
        | nil => rfl
        | cons c r =>
          unfold RPe
          dsimp only
          rw [if_neg (fun q => h (by rw [q.1]; rfl))]
      · have h : r.head? = some 41 := (sg_iff r sgR).mp (by simpa using h)
        obtain ⟨r3, rfl⟩ : ∃ r3, r = 41 :: r3 := by
          cases r with
          | nil => cases h
          | cons c r => cases h; exact ⟨r, rfl⟩
        refine eb_test (et_op rop_gt (et_cbO rcl_len rfl ⟨rfl, et_int (Wv.b2 (fun h => ?_) fun h => ?_)⟩))
        · refine wd_ret (et_tup (ea_cons (et_non (ea_cons (et_non (ea_nil ⟨Nat.le_of_ble_eq_true rfl, no ?_⟩))))))
          have h := of_decide_eq_true h
          unfold RPe
          dsimp only
          rw [if_neg (fun q => by omega)]
        · have h := of_decide_eq_false h
          have e1 : RPe (mkS W) ps (41 :: r3) = some (.tup (.str (mkS W) :: ps), r3) := by
            unfold RPe
            dsimp only
            rw [if_pos ⟨rfl, by omega⟩]
          rw [e1] at p
          refine wd_next (wd_ret (et_tup (ea_cons (et_tuple (et_op rop_add (Ef.et (ef_lst (ea_cons (et_var rfl (ea_nil ⟨Nat.le_of_ble_eq_true rfl, et_own rfl ⟨?_, ea_cons (et_sl (et_var rfl (eo_some (et_int ⟨1, rfl, eo_none (slS ?_)⟩))))⟩⟩))))))))))
          · show 1 + ps.length ≤ Zz
            simp only [Zz]
            omega
          · rw [show cutS (mkS (41 :: r3)) (some 1) none = mkS r3 from cut_from _ 1]
            exact ea_nil ⟨Nat.le_of_ble_eq_true rfl, p⟩
end
end Lw
namespace Lw
open PySem PySem.Spec PyProof.Rows L2 Evl Wv TL
theorem shp_nonR : shp .non := by
  unfold shp
  rfl
def RTd (n : Nat) : Dt → Dt
  | .str z => match RP n (tl z) with
    | none => .non
    | some q => if q.2.isEmpty = true then q.1 else .non
  | _ => .non
theorem mkS_nil (r : List Nat) : (mkS r = Str.ofString "") ↔ r.isEmpty = true := by
  constructor
  · intro e
    have e := congrArg tl e
    have h : tl (Str.ofString "") = [] := by decide +kernel
    rw [h, tl_mkS] at e
    rw [e]
    rfl
  · intro e
    rw [List.isEmpty_iff.mp e]
    exact ext_tl (by decide +kernel)
theorem joinL_len (s : Nat) : ∀ ps : List (List Nat), (joinL [s] ps).length ≤ (ps.map fun p => p.length + 1).sum
  | [] => Nat.zero_le _
  | [p] => by show p.length ≤ p.length + 1 + 0; omega
  | p :: q :: r => by
    have := joinL_len s (q :: r)
    show (p ++ ([s] ++ joinL [s] (q :: r))).length ≤ p.length + 1 + ((q :: r).map fun p => p.length + 1).sum
    rw [List.length_append, List.length_append]
    show p.length + (1 + _) ≤ _
    omega
theorem txT_len : ∀ (n : Nat) (t : Dt), cg n t = true → (txT n t).length + 1 ≤ 12 * szB t := fun n => by
  induction n with
  | zero => intro t h; obtain ⟨_, e, _⟩ := cg_inv h; cases e
  | succ n ih =>
    intro t h
    obtain ⟨k, e, h⟩ := cg_inv h
    cases e
    rcases h with ⟨z, rfl, hz⟩ | ⟨z, xs, rfl, hz, hl, hx⟩
    · have := (word_ok hz).2.1
      rw [len_tl] at this
      show (tl z).length + 1 ≤ 12 * szB (.str z)
      have : szB (.str z) = 1 := by unfold szB; rfl
      omega
    · have h8 := (word_ok hz).2.1
      rw [len_tl] at h8
      have hs : ∀ ys : List Dt, (∀ y ∈ ys, cg n y = true) → ((ys.map (txT n)).map fun p => p.length + 1).sum ≤ 12 * szBs ys := fun ys => by
        induction ys with
        | nil => intro _; exact Nat.zero_le _
        | cons y ys ih2 =>
          intro hy
          have h1 := ih y (hy y (List.mem_cons_self ..))
          have h2 := ih2 fun x hx => hy x (List.mem_cons_of_mem _ hx)
          show (txT n y).length + 1 + ((ys.map (txT n)).map fun p => p.length + 1).sum ≤ 12 * szBs (y :: ys)
          rw [show szBs (y :: ys) = szB y + szBs ys by rw [szBs]]
          omega
      have h1 := hs xs hx
      have h2 := joinL_len 44 (xs.map (txT n))
      have e1 : szB (.tup (.str z :: xs)) = 1 + (1 + szBs xs) := by
        rw [szB, szBs, show szB (.str z) = 1 by unfold szB; rfl]
      show (tl z ++ 40 :: (joinL [44] (xs.map (txT n)) ++ [41])).length + 1 ≤ _
      rw [List.length_append, List.length_cons, List.length_append, e1]
      simp only [List.length_cons, List.length_nil]
      omega
theorem szB_mem {x : Dt} : ∀ {xs : List Dt}, x ∈ xs → szB x ≤ szBs xs
  | y :: ys, h => by
    rw [szBs]
    rcases List.mem_cons.mp h with e | h
    · rw [e]; omega
    · have := szB_mem h
      omega
section
variable {P : Program} {w : World} {K : PySem.W.Frag} {mg : Str → Option Value} {base : Heap}
theorem w_read_term (T : Txt P K mg) : FnOk P w K mg base CX0 26 T.a_read_term T.d_read_term ["text"] (spW K false (R1 (rpPre 24) (RTd 24))) := by
  refine T.F_read_term.ok sc_read_term (fun vs H Q E h => w_len 1 h fun _ _ _ ⟨_, e, _⟩ => by rw [e]; rfl) (fun cdv A outer s H vs Q E hr h => ⟨_, PSs.nox (pss_cons (ps_asg (pe_call (w_read_part T 24 (by decide)) (hr.mono (by omega)) rfl T.g_read_part T.F_read_part.kp T.b_read_part .nil pass0 (pa_cons (pv 0) pa_nil)) (pg_tupK (K := K) (n := 2) rfl (pgs_cons (pg_name (i := 1) sc_read_term.nd rfl (Or.inl rfl)) (pgs_cons (pg_name (i := 2) sc_read_term.nd rfl (Or.inl rfl)) pgs_nil)))) (pss_one (ps_ret (pe_ifExp (pt_cmpR (uEq K (hu64 hr)) (pv 2) pe_str (nomark _)) (pv 1) pe_non)))), w_start h 3 rfl fun ds P xe ⟨d, e, ⟨z, ez, hz, hc⟩, p⟩ => ?_⟩)
  subst ez
  subst e
  refine ⟨Nat.le_of_ble_eq_true rfl, ?_⟩
  have p : P (RTd 24 (.str z)) := p
  unfold RTd at p
  dsimp only at p
  refine wd_seq (wd_asgT (et_call0 nolk (ea_cons (et_var rfl (ea_nil ⟨_, rfl, ⟨z, rfl, hz, hc⟩, ?_⟩)))))
  unfold rpD
  dsimp only
  have okE : shp (.str (Str.ofString "")) := shp_of (by unfold dat; decide +kernel) (by decide)
  cases q : RP 24 (tl z) with
  | none =>
    rw [q] at p
    refine tv_tup (tgs_cons (tv_name (tgs_cons (tv_name (tgs_nil ?_)))))
    exact wd_ret (et_if (eb_test (et_op rop_eq (et_var rfl (et_str ⟨shp_nonR, okE, Wv.bf rfl (et_non p)⟩)))))
  | some x =>
    obtain ⟨t, r⟩ := x
    rw [q] at p
    have p : P (if r.isEmpty = true then t else .non) := p
    refine tv_tup (tgs_cons (tv_name (tgs_cons (tv_name (tgs_nil ?_)))))
    refine wd_ret (et_if (eb_test (et_op rop_eq (et_var rfl (et_str (feq_s (Wv.b2 (fun h => ?_) fun h => ?_)))))))
    · rw [if_pos ((mkS_nil r).mp (of_decide_eq_true h))] at p
      exact et_var rfl p
    · rw [if_neg (fun z => of_decide_eq_false h ((mkS_nil r).mpr z))] at p
      exact et_non p
abbrev ttPre (n : Nat) (d : Dt) : Prop := cg n d = true ∧ szB d ≤ 16
theorem join_tl (a : Str) (ys : List Str) : tl (Txt.join a ys) = joinL (tl a) (ys.map tl) := by rw [TL.join_eq, tl_join]
end
end Lw
namespace Lw
open PySem PySem.Spec PyProof.Rows L2 Evl Wv TL
/-- a wire's text -/
def wtx (x : Wi) : List Nat := tl x.1 ++ if x.2.isEmpty = true then [] else 64 :: joinL [59] (x.2.map (txT 7))
def RWt : Rd3 := fun ds P _ => ∃ x : Wi, ds = [wD x] ∧ wordD (.str x.1) = true ∧ (∀ t ∈ x.2, ttPre 7 t) ∧ x.2.length ≤ 8 ∧ P (.str (mkS (wtx x)))
theorem sgS : tl (Str.ofString ";") = [59] := by decide +kernel
theorem sgA : tl (Str.ofString "@") = [64] := by decide +kernel
/-- lengths of some terms' texts -/
theorem txs_len {n : Nat} : ∀ ys : List Dt, (∀ y ∈ ys, ttPre n y) → ((ys.map (txT n)).map fun p => p.length + 1).sum ≤ 192 * ys.length
  | [], _ => Nat.zero_le _
  | y :: ys, h => by
    have h1 := txT_len n y (h y (List.mem_cons_self ..)).1
    have h3 := (h y (List.mem_cons_self ..)).2
    have h2 := txs_len ys fun x hx => h x (List.mem_cons_of_mem _ hx)
    show (txT n y).length + 1 + ((ys.map (txT n)).map fun p => p.length + 1).sum ≤ 192 * (ys.length + 1)
    omega
theorem wtx_len {x : Wi} (hw : wordD (.str x.1) = true) (h : ∀ t ∈ x.2, ttPre 7 t) (hl : x.2.length ≤ 8) : (wtx x).length ≤ 1600 := by
  have h8 := (word_ok hw).2.1
  rw [len_tl] at h8
  unfold wtx
  rw [List.length_append]
  split
  · simp only [List.length_nil]; omega
  · have := joinL_len 59 (x.2.map (txT 7))
    have h2 := txs_len x.2 h
    rw [List.length_cons]
    omega
/-! ### reading wires -/
def isNon : Dt → Bool
  | .non => true
  | _ => false
def RF (r : List Nat) : List Dt := (spl [59] 0 [] r).map fun l => RTd 24 (.str (mkS l))
def RW (l : List Nat) : Option Wi := match par [64] [] l with
  | none => if wordD (.str (mkS l)) = true then some (mkS l, []) else none
  | some q => if wordD (.str (mkS q.1)) = true ∧ q.2.isEmpty = false ∧ (RF q.2).any isNon = false then some (mkS q.1, RF q.2) else none
def rwD : Dt → Dt
  | .str z => match RW (tl z) with
    | none => .non
    | some x => wD x
  | _ => .non
theorem spl1_len (s : Nat) : ∀ (l acc : List Nat), ((spl [s] 0 acc l).map fun p => p.length + 1).sum = acc.length + l.length + 1
  | [], acc => by rw [spl_nil]; show acc.length + 1 + 0 = _; simp
  | c :: r, acc => by
    cases h : pre [s] (c :: r) with
    | true =>
      rw [spl_hit h]
      show acc.length + 1 + ((spl [s] 0 [] r).map fun p => p.length + 1).sum = _
      rw [spl1_len s r []]
      simp only [List.length_cons, List.length_nil]
      omega
    | false =>
      rw [spl_miss h, spl1_len s r (acc ++ [c])]
      simp only [List.length_append, List.length_cons, List.length_nil]
      omega
theorem spl1_cnt (s k : Nat) : ∀ (l acc : List Nat), ∀ p ∈ spl [s] 0 acc l, p.count k ≤ acc.count k + l.count k
  | [], acc, p, h => by
    rw [spl_nil] at h
    rw [List.mem_singleton.mp h]
    omega
  | c :: r, acc, p, h => by
    cases hp : pre [s] (c :: r) with
    | true =>
      rw [spl_hit hp] at h
      rcases List.mem_cons.mp h with e | h
      · rw [e]; omega
      · have := spl1_cnt s k r [] p h
        rw [List.count_nil] at this
        have h2 : r.count k ≤ (c :: r).count k := (List.sublist_cons_self c r).count_le k
        omega
    | false =>
      rw [spl_miss hp] at h
      have := spl1_cnt s k r (acc ++ [c]) p h
      rw [List.count_append] at this
      have h2 : (c :: r).count k = [c].count k + r.count k := by
        rw [show c :: r = [c] ++ r from rfl, List.count_append]
      omega
theorem sum_mem {a : Nat} : ∀ {l : List Nat}, a ∈ l → a ≤ l.sum
  | b :: l, h => by
    rw [List.sum_cons]
    rcases List.mem_cons.mp h with e | h
    · omega
    · have := sum_mem h
      omega
theorem spl1_mem {s : Nat} {l acc p : List Nat} (h : p ∈ spl [s] 0 acc l) : p.length ≤ acc.length + l.length := by
  have := sum_mem (List.mem_map_of_mem (f := fun p : List Nat => p.length + 1) h)
  rw [spl1_len] at this
  omega
theorem spl1_cl (s : Nat) (l acc : List Nat) : (spl [s] 0 acc l).length ≤ acc.length + l.length + 1 := by
  rw [← spl1_len s l acc]
  generalize spl [s] 0 acc l = ps
  induction ps with
  | nil => exact Nat.zero_le _
  | cons p ps ih => rw [List.map_cons, List.sum_cons, List.length_cons]; omega
/-- split at one plain sign -/
theorem split1 {z y : Str} {s : Nat} (ey : tl y = [s]) (hk : y.cps.all (· < 256) = true) : (Txt.split z y).map tl = spl [s] 0 [] (tl z) := by
  have := split_spl z y (by rw [ey]; simp) (kind_ok hk)
  rw [ey] at this
  exact this
theorem split1_eq {z y : Str} {s : Nat} (ey : tl y = [s]) (hk : y.cps.all (· < 256) = true) : Txt.split z y = (spl [s] 0 [] (tl z)).map mkS := by
  refine map_tl_inj ?_
  rw [split1 ey hk, List.map_map]
  exact (List.map_id _).symm
end Lw
/-! defs called where an error is handled: the error is their argument -/
namespace Wv
open PySem PySem.Spec PyProof.Rows L2 Evl L2H
/-- a promise told of the handled error: its address, class, dict -/
abbrev SpE : Type := Addr → Value → Option Addr → Sp
structure FnC (P : Program) (w : World) (K : PySem.W.Frag) (mg : Str → Option Value) (base : Heap) (k : Nat) (f : Addr) (fd : FuncData) (ps : List Str) (sp : SpE) : Prop where
  len : ∀ a cls d vs H Q E, sp a cls d vs H Q E → vs.length = ps.length
  run : ∀ (A : Around) (outer : List Env) (s : Shared) (H : Hp) (args : Args) (us : List Value) (vs : List V) (Q : VK) (E : XK) (p : Addr × Obj) (cls : Value) (d : Option Addr), RoomH k A → Zc cls d p.2 → (∃ vs, p.2.data = .fields vs) → PinOk outer H s p → Env0 P w K mg base A outer s H →
    BindsTo s fd args (ps.zip us) → Vals vs us → sp p.1 cls d vs H Q E → codeAny (model P w) A (.call (.ref f) args) (CR CX0 outer P w H s Q E) s
section
variable {X : Cx} {k : Nat} {f : Addr} {fd : FuncData} {ps : List Str} {sp : SpE} {x : Str} {q pos : Pos} {e : Expr} {es : List Expr} {te : TE} {t : TA} {p : Addr × Obj} {cls : Value} {d : Option Addr}
end
section
variable {K : PySem.W.Frag} {a D C dd : Addr} {σ : L2.St} {H : Hp} {Dn : Ends} {tu rest : TS} {fs : List (Str × V)}
end
end Wv
/-! a lambda handed to a def that tells its value or its error (after HandS.Lambda, with all kept but the one table), and the same over trees -/
namespace LamX
open PySem PySem.Spec PyProof.Rows L2
/-- all but what stands at P stays -/
def ExtP (P : Addr) (H H' : Hp) : Prop := ∀ b o, b ≠ P → H b = some o → H' b = some o
theorem ExtP.refl {P : Addr} (H : Hp) : ExtP P H H := fun _ _ _ h => h
section
variable {X : Cx} {pins : List (Addr × Obj)} {σ : L2.St} {H : Hp} {s : Shared}
end
section
variable {X : Cx}
end
end LamX

namespace Wv
open PySem PySem.Spec PyProof.Rows L2 Evl LamX
section
variable {g : Gx} {c : Cc} {σ : L2.St} {H H' : Hp} {env : List Sl}
end
end Wv
/-! comprehensions with two names as their target -/
namespace Wv
open PySem L2 Evl
section
variable {g : Gx} {c : Cc} {σ : L2.St} {H H1 H2 H' : Hp} {env e1 : List Sl} {d d1 d2 : Dt} {x : V} {te : TE} {tt : TT} {P : Dt → List Sl → Prop}
theorem Cq.step2 {D : Addr} {acc : Dt} {j1 j2 : Nat} {H3 : Hp} {y1 y2 : V} (q : Cq g c σ e1 H1 D acc H') (S1 : Sv g.K c H1 σ e1) (hD : H1 D = none) (hj1 : nOwn e1 j1) (hj2 : nOwn e1 j2) (Sa : Sv g.K (c.add D) H' (σ.set j1 (some y1)) (e1.set j1 (.v d1))) (Sb : Sv g.K (c.add D) H' ((σ.set j1 (some y1)).set j2 (some y2)) ((e1.set j1 (.v d1)).set j2 (.v d2)))
    (S3 : Sv g.K (c.add D) H3 ((σ.set j1 (some y1)).set j2 (some y2)) ((e1.set j1 (.v d1)).set j2 (.v d2))) (k3 : Ko (Mv (c.add D) ((σ.set j1 (some y1)).set j2 (some y2)) ((e1.set j1 (.v d1)).set j2 (.v d2))) (An (c.add D) ((σ.set j1 (some y1)).set j2 (some y2)) ((e1.set j1 (.v d1)).set j2 (.v d2))) H' H3) :
    Cq g c σ e1 H1 D acc H3 ∧ Sv g.K (c.add D) H3 (σ.set j1 (some y1)) (e1.set j1 (.v d1)) := by
  have hDs : ∀ s, Chg c.so c.cc s → D ≠ s := fun s z q => S1.dom s (S1.sO s z).1 (by rw [← q]; exact hD)
  have nD : ¬ Mv (c.add D) ((σ.set j1 (some y1)).set j2 (some y2)) ((e1.set j1 (.v d1)).set j2 (.v d2)) D := fun z => by
    rcases z with z | z
    · exact hDs D z rfl
    · obtain ⟨i', d', z1, z2⟩ := z
      exact (Sb.oa z1 z2).2.1 (.inr rfl)
  have hj2' : nOwn (e1.set j1 (.v d1)) j2 := fun d0 z => by
    rcases Sl.get_set z with ⟨_, z⟩ | ⟨_, z⟩
    · cases z
    · exact hj2 d0 z
  have own1 : ∀ a, Ow (σ.set j1 (some y1)) (e1.set j1 (.v d1)) a → Ow ((σ.set j1 (some y1)).set j2 (some y2)) ((e1.set j1 (.v d1)).set j2 (.v d2)) a := fun a ⟨i, e, z1, z2⟩ => by
    have n : i ≠ j2 := fun z => hj2' e (by rw [← z]; exact z1)
    exact ⟨i, e, by rw [List.getElem?_set, if_neg (Ne.symm n)]; exact z1, oa_to n z2⟩
  have own0 : ∀ a, Ow σ e1 a → Ow (σ.set j1 (some y1)) (e1.set j1 (.v d1)) a := fun a ⟨i, e, z1, z2⟩ => by
    have n : i ≠ j1 := fun z => hj1 e (by rw [← z]; exact z1)
    exact ⟨i, e, by rw [List.getElem?_set, if_neg (Ne.symm n)]; exact z1, oa_to n z2⟩
  have k2 : Ko (Mv (c.add D) (σ.set j1 (some y1)) (e1.set j1 (.v d1))) (An (c.add D) (σ.set j1 (some y1)) (e1.set j1 (.v d1))) H' H3 := k3.mono (fun a z => mv_set_v a z) fun a z => z.imp id (fun z => z.imp id (own1 a))
  have k1 : Ko (Mv (c.add D) σ e1) (An (c.add D) σ e1) H' H3 := k2.mono (fun a z => mv_set_v a z) fun a z => z.imp id (fun z => z.imp id (own0 a))
  have S2 := Sa.unset hj2' S3 k2
  have D3 : H3 D = H' D := k3.same nD (.inr (.inl (.inr rfl))) q.ol.some
  exact ⟨⟨q.sv.unset hj1 S2 k1, q.kf.trans (k1.mono (fun a z => z) fun a z => z.imp id fun z => Av.add.mpr (.inl z)), q.ol.keep (k1.mono (Mv.av q.sv.sO) fun _ z => z) D3⟩, S2⟩
theorem Cq.out2 {so : Option Addr} {D : Addr} {j1 j2 : Nat} {y1 y2 : V} {t : Dt} {x' : V} (hj1 : nOwn e1 j1) (hj2 : nOwn e1 j2) (r : Rv so (Av (c.add D) ((σ.set j1 (some y1)).set j2 (some y2)) ((e1.set j1 (.v d1)).set j2 (.v d2))) H x' t) : Rv so (Av (c.add D) σ e1) H x' t := by
  refine Cq.out hj1 (Cq.out (fun d0 z => ?_) r)
  rcases Sl.get_set z with ⟨_, z⟩ | ⟨_, z⟩
  · cases z
  · exact hj2 d0 z
theorem wipe2 {j1 j2 : Nat} (hne : j1 ≠ j2) {y1 y2 : V} : ((wipe σ [j1, j2]).set j1 (some y1)).set j2 (some y2) = (σ.set j1 (some y1)).set j2 (some y2) ∧ wipe ((σ.set j1 (some y1)).set j2 (some y2)) [j1, j2] = wipe σ [j1, j2] := by
  have e : ∀ τ : L2.St, wipe τ [j1, j2] = (τ.set j2 none).set j1 none := fun _ => rfl
  refine ⟨?_, ?_⟩
  · rw [e, List.set_set, List.set_comm _ _ (Ne.symm hne), List.set_set]
  · rw [e, e, List.set_set, List.set_comm _ _ hne, List.set_set]
theorem ef_lc2 {wi : TI} {j1 j2 : Nat} (hne : j1 ≠ j2) (h : Ei g env wi fun ds e1 => nOwn e1 j1 ∧ nOwn e1 j2 ∧ ∃ I : Nat → List Dt → Prop, I 0 [] ∧ (∀ i d acc, ds[i]? = some d → I i acc → ∃ d1 d2, d = .tup [d1, d2] ∧ Eb g ((e1.set j1 (.v d1)).set j2 (.v d2)) tt fun b e2 => e2 = (e1.set j1 (.v d1)).set j2 (.v d2) ∧
    if b = true then Et g ((e1.set j1 (.v d1)).set j2 (.v d2)) te fun t e3 => e3 = (e1.set j1 (.v d1)).set j2 (.v d2) ∧ I (i + 1) (acc ++ [t]) else I (i + 1) acc) ∧ ∀ acc, I ds.length acc → P (.lst acc) e1) : Ef g env (tLc wi (gTup g.K 2 (gCons (gName j1) (gCons (gName j2) gNil))) tt te [j1, j2]) P := fun c L σ H S Q q => by
  refine h c L σ H S _ fun J ds e1 H1 ⟨hj1, hj2, I, i0, hs, hd⟩ S1 l1 k1 w D hD => ?_
  refine ⟨fun i m H' => m = ds.length - i ∧ i ≤ ds.length ∧ ∃ acc, acc.length ≤ i ∧ I i acc ∧ Cq g c σ e1 H1 D (.lst acc) H',
    ⟨_, rfl, Nat.zero_le _, [], Nat.le_refl _, i0, Cq.start S1 hD ⟨[], upd_same, rfl, Nat.zero_le _, fun i x d z => by simp at z⟩⟩, ?_⟩
  rintro i m H' ⟨rfl, hi, acc, hal, hI, C'⟩
  have ka := C'.kf.mono (A' := Av c σ e1) (Mv.av S1.sO) fun _ z => .inr z
  by_cases hlt : i < ds.length
  · refine .inr ⟨w.go i H' hlt ka, fun H2 => ∃ acc, acc.length ≤ i + 1 ∧ I (i + 1) acc ∧ Cq g c σ e1 H1 D (.lst acc) H2, fun H2 z => ⟨ds.length - (i + 1), by omega, rfl, hlt, z⟩, fun x H'' y => ?_⟩
    obtain ⟨e, d, ed, rd⟩ := w.yld (Av (c.add D) σ e1) i H' x H'' hlt ka (fun a z => by
      rcases Av.add.mp z with z | z
      · exact .inl z
      · exact .inr (by rw [z]; exact hD)) C'.sv.lk_av y
    obtain ⟨d1, d2, rfl, hs⟩ := hs i d acc ed hI
    cases rd with
    | @tup a xs _ ho h1 hl hz he =>
      obtain ⟨x1, x2, rfl⟩ : ∃ x1 x2, xs = [x1, x2] := by
        match xs, hl with
        | [x1, x2], _ => exact ⟨x1, x2, rfl⟩
      have r1 := he 0 x1 d1 rfl rfl
      have r2 := he 1 x2 d2 rfl rfl
      obtain ⟨C2, Sa⟩ := C'.into (j := j1) e r1
      have Sb : Sv g.K (c.add D) H'' ((σ.set j1 (some x1)).set j2 (some x2)) ((e1.set j1 (.v d1)).set j2 (.v d2)) := Sa.set_v (r2.mono av_set_v)
      refine ⟨a, _, rfl, .inl (.inl h1), rfl, x1, [x2], rfl, x2, [], rfl, rfl, ?_⟩
      rw [(wipe2 hne).1]
      refine ⟨(wipe2 hne).2, ?_⟩
      refine hs (c.add D) (L.add S1.sO) _ H'' Sb _ fun b e2 H3 ⟨e0, pb⟩ S3 l3 k3 => ?_
      subst e0
      obtain ⟨C3, Sa3⟩ := C2.step2 S1 hD hj1 hj2 Sa Sb S3 k3
      cases b with
      | false => exact ⟨acc, Nat.le_succ_of_le hal, pb, C3⟩
      | true =>
        refine pb (c.add D) (L.add S1.sO) _ H3 S3 _ fun y t e3 H4 ⟨e0, pt⟩ S4 l4 k4 r4 => ?_
        subst e0
        obtain ⟨C4, _⟩ := C3.step2 S1 hD hj1 hj2 Sa3 S3 S4 k4
        obtain ⟨xs, z1, z2, z3, z4⟩ := C4.ol
        have hl := w.len
        exact ⟨xs, z1, Nat.lt_of_lt_of_le (show xs.length < Zz by omega) (by decide), acc ++ [t], by simp; omega, pt, C4.wr_list S1 hD z1 (by omega) (Cq.out2 hj1 hj2 r4)⟩
  · have : i = ds.length := by omega
    subst this
    exact .inl ⟨w.stop H' ka, q D (.lst acc) e1 H' (hd acc hI) C'.sv l1 (k1.trans (C'.kf.le l1)) (k1.back hD) C'.ol⟩
theorem ef_map2 {wi : TI} {j1 j2 : Nat} (hne : j1 ≠ j2) (p : Dt → Bool) (f : Dt → Dt) (h : Ei g env wi fun ds e1 => nOwn e1 j1 ∧ nOwn e1 j2 ∧ (∀ d ∈ ds, ∃ d1 d2, d = .tup [d1, d2] ∧ Eb g ((e1.set j1 (.v d1)).set j2 (.v d2)) tt fun b e2 => e2 = (e1.set j1 (.v d1)).set j2 (.v d2) ∧ b = p d ∧
    (p d = true → Et g ((e1.set j1 (.v d1)).set j2 (.v d2)) te fun t e3 => e3 = (e1.set j1 (.v d1)).set j2 (.v d2) ∧ t = f d)) ∧ P (.lst ((ds.filter p).map f)) e1) : Ef g env (tLc wi (gTup g.K 2 (gCons (gName j1) (gCons (gName j2) gNil))) tt te [j1, j2]) P := ef_lc2 hne fun c L σ H S R q =>
  h c L σ H S R fun J ds e1 H1 ⟨h1, h1', h2, h4⟩ => q J ds e1 H1 ⟨h1, h1', fun i acc => acc = ((ds.take i).filter p).map f, rfl, fun i d acc hi hI => by
    have hm := List.mem_of_getElem? hi
    obtain ⟨d1, d2, ed, h2⟩ := h2 d hm
    refine ⟨d1, d2, ed, fun c L σ H S Q q => h2 c L σ H S Q fun b e2 H1 ⟨z1, z2, z3⟩ => q b e2 H1 ⟨z1, ?_⟩⟩
    have ht : ds.take (i + 1) = ds.take i ++ [d] := by
      rw [List.take_add_one, hi]; rfl
    subst z2
    cases hp : p d with
    | true =>
      refine iteT (fun c L σ H S Q q => z3 hp c L σ H S Q fun x t e3 H1 ⟨w1, w2⟩ => q x t e3 H1 ⟨w1, ?_⟩)
      show _ = ((ds.take (i + 1)).filter p).map f
      rw [hI, w2, ht, List.filter_append, List.map_append, List.filter_cons_of_pos hp]
      rfl
    | false =>
      refine iteF ?_
      show _ = ((ds.take (i + 1)).filter p).map f
      rw [hI, ht, List.filter_append, List.filter_cons_of_neg (by rw [hp]; intro z; cases z), List.filter_nil, List.append_nil], fun acc hI => by
    have hI : acc = ((ds.take ds.length).filter p).map f := hI
    rw [hI, List.take_length]
    exact h4⟩
theorem ef_map2Y {wi : TI} {j1 j2 : Nat} (hne : j1 ≠ j2) (f : Dt → Dt) (h : Ei g env wi fun ds e1 => nOwn e1 j1 ∧ nOwn e1 j2 ∧ (∀ d ∈ ds, ∃ d1 d2, d = .tup [d1, d2] ∧ Et g ((e1.set j1 (.v d1)).set j2 (.v d2)) te fun t e3 => e3 = (e1.set j1 (.v d1)).set j2 (.v d2) ∧ t = f d) ∧ P (.lst (ds.map f)) e1) : Ef g env (tLc wi (gTup g.K 2 (gCons (gName j1) (gCons (gName j2) gNil))) tYes te [j1, j2]) P :=
  ef_map2 hne (fun _ => true) f fun c L σ H S R q => h c L σ H S R fun J ds e1 H1 ⟨h1, h1', h2, h3⟩ => q J ds e1 H1 ⟨h1, h1', fun d hd => by
    obtain ⟨d1, d2, ed, h2⟩ := h2 d hd
    exact ⟨d1, d2, ed, eb_yes ⟨rfl, rfl, fun _ => h2⟩⟩, by rw [List.filter_eq_self.mpr fun _ _ => rfl]; exact h3⟩
theorem et_all2Y {wi : TI} {j1 j2 : Nat} (hne : j1 ≠ j2) (f : Dt → Bool) (h : Ei g env wi fun ds e1 => nOwn e1 j1 ∧ nOwn e1 j2 ∧ (∀ d ∈ ds, ∃ d1 d2, d = .tup [d1, d2] ∧ Et g ((e1.set j1 (.v d1)).set j2 (.v d2)) te fun t e3 => e3 = (e1.set j1 (.v d1)).set j2 (.v d2) ∧ t = .bl (f d)) ∧ P (.bl (ds.all f)) e1) :
    Et g env (tCB (rAll g.K) (tCons (tLc wi (gTup g.K 2 (gCons (gName j1) (gCons (gName j2) gNil))) tYes te [j1, j2]) tNil)) P :=
  et_cb rcl_all (ea_cons (Ef.et (ef_map2Y hne (fun d => .bl (f d)) fun c L σ H S R q => h c L σ H S R fun J ds e1 H1 ⟨h1, h1', h2, h3⟩ => q J ds e1 H1 ⟨h1, h1', h2, ea_nil ⟨ds.map f, by rw [List.map_map]; rfl, by rw [List.all_map]; exact h3⟩⟩)))
end
section
variable {g : Gx} {env : List Sl} {so : Option Addr} {A : Addr → Prop} {H1 : Hp} {K : PySem.W.Frag} {PL : List Dt → List Sl → Prop}
theorem wk_zipT {a b : Addr} {ds es : List Dt} (r1 : Rv so A H1 (.ref a) (.tup ds)) (r2 : Rv so A H1 (.ref b) (.tup es)) : Wk so A (RZ.ItzT K a b) (zipD ds es) H1 := by
  obtain ⟨a', xs, e1, ho1, h1, rs1, hz1⟩ := tup_rv r1
  cases e1
  obtain ⟨b', ys, e2, ho2, h2, rs2, hz2⟩ := tup_rv r2
  cases e2
  have sq1 : ∀ H', Ko A A H1 H' → SqT K H' a xs := fun H' k => .inl (.inl (k.keep1 ho1 h1 fun _ z => nomatch z))
  have sq2 : ∀ H', Ko A A H1 H' → SqT K H' b ys := fun H' k => .inl (.inl (k.keep1 ho2 h2 fun _ z => nomatch z))
  have hl : (zipD ds es).length = min ds.length es.length := by unfold zipD; rw [List.length_zipWith]
  have l1 := rs1.1
  have l2 := rs2.1
  refine ⟨by omega, fun i H' hi k => ⟨xs, ys, xs[i]'(by omega), ys[i]'(by omega), sq1 H' k, sq2 H' k, by simp, by simp⟩, fun H' k => ⟨xs, ys, sq1 H' k, sq2 H' k, by omega⟩, fun O' i H' x H'' hi k n1 n2 ⟨T, u, v, ex, hT, e, y1, y2⟩ => ?_⟩
  subst ex e
  have hi1 : i < ds.length := by omega
  have hi2 : i < es.length := by omega
  have hu := y1 xs (sq1 H' k)
  have hv := y2 ys (sq2 H' k)
  refine ⟨Ex.new hT, .tup [ds[i], es[i]], by unfold zipD; rw [List.getElem?_zipWith]; simp [hi1, hi2], ?_⟩
  have ru : Rv so O' H' u ds[i] := (rs1.2 i u ds[i] hu (by simp [hi1])).later k n1
  have rv : Rv so O' H' v es[i] := (rs2.2 i v es[i] hv (by simp [hi2])).later k n1
  exact new_tup n2 hT (Rvs.cons ru (Rvs.cons rv Rvs.nil)) (Nat.le_of_ble_eq_true rfl)
theorem ei_zipT {ta : TA} (h : Ea g env ta fun ds e => ∃ xs ys, ds = [.tup xs, .tup ys] ∧ PL (zipD xs ys) e) : Ei g env (RZ.iZipA g.K ta) PL := fun c L σ H S R q =>
  h c L σ H S _ fun vs ds e H1 ⟨xs, ys, e0, p⟩ S1 l k r => by
    subst e0
    obtain ⟨x, y, rfl, r1, r2⟩ := two_rv r
    obtain ⟨a, us, rfl, _, h1, _⟩ := tup_rv r1
    obtain ⟨b, ws, rfl, _, h2, _⟩ := tup_rv r2
    exact ⟨a, b, us, ws, rfl, .inr ⟨.inl (.inl h1), .inl (.inl h2), q _ _ e H1 p S1 l k (wk_zipT r1 r2)⟩⟩
end
section
variable {g : Gx} {env : List Sl} {te : TE} {P : Dt → List Sl → Prop} {K : PySem.W.Frag}
def fIsB : Dt → Dt → (Dt → Prop) → Prop
  | .bl a, .bl b, k => k (.bl (decide (a = b)))
  | _, _, _ => False
theorem rop_isB : Rop K rIsB fIsB := fun so O H x y d e hO r1 r2 PD f Q q => by
  unfold fIsB at f
  split at f
  · cases r1; cases r2
    rename_i a b
    first
    | exact ⟨b, rfl, q _ _ H f (Ex.refl H) (by
        rw [show decide (V.bl a = V.bl b) = decide (a = b) from decide_eq_decide.mpr ⟨V.bl.inj, fun h => by rw [h]⟩]
        exact .bl _)⟩
    | exact ⟨a, b, rfl, rfl, q _ _ H f (Ex.refl H) (.bl _)⟩
  · exact f.elim
def isBILT : Dt → Bool | .bl _ => true | .int _ => true | .lst _ => true | .tup _ => true | _ => false
theorem et_isBILT (h : Et g env te fun d e => (tyD d).isSome = true ∧ P (.bl (isBILT d)) e) : Et g env (tCB (rIsU g.K) (tCons te (tCons (tTup (tCons (tC (.ty "bool")) (tCons (tC (.ty "int")) (tCons (tC (.ty "list")) (tCons (tC (.ty "tuple")) tNil))))) tNil))) P :=
  et_isT ["bool", "int", "list", "tuple"] isBILT (by decide) (iskT (by decide +kernel) (fun _ => (by decide +kernel : kitBs "bool" ["bool", "int", "list", "tuple"] = some true)) (fun _ => (by decide +kernel : kitBs "int" ["bool", "int", "list", "tuple"] = some true)) (fun _ => (by decide +kernel : kitBs "str" ["bool", "int", "list", "tuple"] = some false))
    (fun _ => (by decide +kernel : kitBs "list" ["bool", "int", "list", "tuple"] = some true)) (fun _ => (by decide +kernel : kitBs "tuple" ["bool", "int", "list", "tuple"] = some true)) fun _ => (by decide +kernel : kitBs "dict" ["bool", "int", "list", "tuple"] = some false)) h
end
end Wv
/-! enumerate of a list; an own list handed to a def that may change it. -/
namespace Wv
open PySem PySem.Spec PyProof.Rows L2 Evl
section
variable {g : Gx} {c : Cc} {H H1 H' : Hp} {σ : L2.St} {env : List Sl} {PL : List Dt → List Sl → Prop} {so : Option Addr} {A : Addr → Prop} {K : PySem.W.Frag}
def enumD (ds : List Dt) : List Dt := ds.mapIdx fun i d => .tup [.int (i : Int), d]
theorem enumD_len (ds : List Dt) : (enumD ds).length = ds.length := by unfold enumD; rw [List.length_mapIdx]
theorem enumD_get {ds : List Dt} {i : Nat} {d : Dt} (h : (enumD ds)[i]? = some d) : ∃ x, ds[i]? = some x ∧ d = .tup [.int (i : Int), x] := by
  unfold enumD at h
  rw [List.getElem?_mapIdx] at h
  cases e : ds[i]? with
  | none => rw [e] at h; cases h
  | some x => rw [e] at h; cases h; exact ⟨x, rfl, rfl⟩
theorem wk_enum {a : Addr} {ds : List Dt} (r : Rv so A H1 (.ref a) (.lst ds)) : Wk so A (L2.Ite K a) (enumD ds) H1 := by
  obtain ⟨a', xs, e1, ho1, h1, rs1, hz1⟩ := lst_rv r
  cases e1
  have sq1 : ∀ H', Ko A A H1 H' → SqL K H' a xs := fun H' k => .inl (.inl (k.keep1 ho1 h1 fun _ z => nomatch z))
  have l1 := rs1.1
  have hl := enumD_len ds
  refine ⟨by omega, fun i H' hi k => ⟨xs, xs[i]'(by omega), sq1 H' k, by simp⟩, fun H' k => ⟨xs, sq1 H' k, by omega⟩, fun O' i H' x H'' hi k n1 n2 ⟨T, u, ex, hT, e, y1⟩ => ?_⟩
  subst ex e
  have hi1 : i < ds.length := by omega
  have hu := y1 xs (sq1 H' k)
  refine ⟨Ex.new hT, .tup [.int (i : Int), ds[i]], by unfold enumD; rw [List.getElem?_mapIdx]; simp [hi1], ?_⟩
  have ru : Rv so O' H' u ds[i] := (rs1.2 i u ds[i] hu (by simp [hi1])).later k n1
  exact new_tup n2 hT (Rvs.cons (.int _) (Rvs.cons ru Rvs.nil)) (Nat.le_of_ble_eq_true rfl)
theorem ei_enum {ta : TA} (h : Ea g env ta fun ds e => ∃ xs, ds = [.lst xs] ∧ PL (enumD xs) e) : Ei g env (L2.iEnum g.K ta) PL := fun c L σ H S R q =>
  h c L σ H S _ fun vs ds e H1 ⟨xs, e0, p⟩ S1 l k r => by
    subst e0
    obtain ⟨x, rfl, r1⟩ := one_rv r
    obtain ⟨a, us, rfl, _, h1, _⟩ := lst_rv r1
    exact ⟨a, us, rfl, .inl (.inl h1), q _ _ e H1 p S1 l k (wk_enum r1)⟩
end
end Wv
/-! Things of the same data are equal: lists, tuples, dicts within one another. -/
namespace PySem.SeqAt
open AutoSeq1 (wpAny_loadPart')
open MeetsSeq MeetsSeq2 MeetsSeq3 SeqRoads2
section
variable {prog : Program} {w : World}
end
end PySem.SeqAt
namespace Wv
open PySem PySem.Spec PyProof.Rows L2 Evl
section
variable {X : Cx} {pins : List (Addr × Obj)} {σ : L2.St} {H : Hp} {s : Shared}
end
theorem Rop.l {K : PySem.W.Frag} {r r' : R2} {f : Dt → Dt → (Dt → Prop) → Prop} (h : Rop K r f) : Rop K (fun x y H Q => r x y H Q ∨ r' x y H Q) f := fun so O H x y d e hO r1 r2 PD p Q q => .inl (h so O H x y d e hO r1 r2 PD p Q q)
theorem Rop.r {K : PySem.W.Frag} {r r' : R2} {f : Dt → Dt → (Dt → Prop) → Prop} (h : Rop K r' f) : Rop K (fun x y H Q => r x y H Q ∨ r' x y H Q) f := fun so O H x y d e hO r1 r2 PD p Q q => .inr (h so O H x y d e hO r1 r2 PD p Q q)
end Wv
namespace Wv
open PySem PySem.Spec PyProof.Rows L2 Evl
section
variable {g : Gx} {env : List Sl} {ta tb : TE} {P : Dt → List Sl → Prop}
end
end Wv
/-! Keys of dicts that are tuples of ints, texts and tuples of these. -/
namespace Nk
open PySem PySem.Spec PyProof.Rows L2
section
variable (P : Program) (w : World)
def itIs (h : Heap) : KI → Value → Prop
  | .inl k, v => (mixKind P w).is k v = true
  | .inr l, v => ∃ b, v = .ref b ∧ IsTupleKey (mixKind P w) h l b
def itHash : KI → Int
  | .inl k => (mixKind P w).hash k
  | .inr l => tupleKeyHash (mixKind P w) l
def itDr : KI → Nat
  | .inl _ => 1
  | .inr l => l.length + 1
inductive Its (h : Heap) : K2 → List Value → Prop
  | nil : Its h [] []
  | cons {k : KI} {v : Value} {ks : K2} {vs : List Value} (a : itIs P w h k v) (b : Its h ks vs) : Its h (k :: ks) (v :: vs)
def IsK2 (h : Heap) (ks : K2) (a : Addr) : Prop := ∃ o us n, h.get? a = some o ∧ o.cls = .type "tuple" ∧ o.data = .seq us n ∧ Its P w h ks us.toList
end
section
variable {P : Program} {w : World} {h h' : Heap} {A : Around} {E : Value → Shared → Prop} {s : Shared}
theorem itIs.inj {x y : KI} {v : Value} (hx : itIs P w h x v) (hy : itIs P w h y v) : x = y := by
  cases x with
  | inl k =>
    cases y with
    | inl l => rw [(mixKind P w).inj _ _ _ hx hy]
    | inr l =>
      obtain ⟨b, rfl, _⟩ := hy
      have := (mixKind P w).byValue k _ hx
      cases this
  | inr l =>
    obtain ⟨b, rfl, hl⟩ := hx
    cases y with
    | inl k =>
      have := (mixKind P w).byValue k _ hy
      cases this
    | inr m =>
      obtain ⟨c, e, hm⟩ := hy
      cases e
      rw [hl.inj hm]
theorem Its.inj {x y : K2} {vs : List Value} (hx : Its P w h x vs) (hy : Its P w h y vs) : x = y := by
  induction hx generalizing y with
  | nil => cases hy; rfl
  | cons a _ ih =>
    cases hy with
    | cons b t => rw [a.inj b, ih t]
theorem Its.len {x : K2} {vs : List Value} (hx : Its P w h x vs) : x.length = vs.length := by
  induction hx with
  | nil => rfl
  | cons _ _ ih => simp [ih]
theorem IsK2.inj {a : Addr} {x y : K2} (hx : IsK2 P w h x a) (hy : IsK2 P w h y a) : x = y := by
  obtain ⟨o, us, n, ho, _, hd, hi⟩ := hx
  obtain ⟨o', us', n', ho', _, hd', hi'⟩ := hy
  cases ho.symm.trans ho'
  cases hd.symm.trans hd'
  exact hi.inj hi'
theorem itIs.keeps {k : KI} {v : Value} {d : Addr} {o : Obj} {es ep} (x : itIs P w h k v) (ho : h.get? d = some o) (hd : o.data = .dict es ep) (hs : Heap.SameBut d h h') : itIs P w h' k v := by
  cases k with
  | inl k => exact x
  | inr l =>
    obtain ⟨b, e, hl⟩ := x
    exact ⟨b, e, hl.keeps ho hd hs⟩
theorem Its.keeps {ks : K2} {vs : List Value} {d : Addr} {o : Obj} {es ep} (x : Its P w h ks vs) (ho : h.get? d = some o) (hd : o.data = .dict es ep) (hs : Heap.SameBut d h h') : Its P w h' ks vs := by
  induction x with
  | nil => exact .nil
  | cons a _ ih => exact .cons (a.keeps ho hd hs) ih
theorem IsK2.keeps {ks : K2} {a d : Addr} {o : Obj} {es ep} (x : IsK2 P w h ks a) (ho : h.get? d = some o) (hd : o.data = .dict es ep) (hs : Heap.SameBut d h h') : IsK2 P w h' ks a := by
  obtain ⟨o', us, n, ho', hc, hd', hi⟩ := x
  have hne : a ≠ d := fun e => by
    subst e
    cases ho'.symm.trans ho
    rw [hd] at hd'
    cases hd'
  exact ⟨o', us, n, (hs.2 a hne).trans ho', hc, hd', hi.keeps ho hd hs⟩
theorem IsK2.ty {ks : K2} {a : Addr} (x : IsK2 P w s.heap ks a) : s.TypeIs (.ref a) "tuple" := by
  obtain ⟨o, _, _, ho, hc, _⟩ := x
  exact ⟨o, ho, hc⟩
theorem key_is {l : List Key} {b : Addr} (x : IsTupleKey (mixKind P w) h l b) : ∃ us, h.IsTuple b us := by
  obtain ⟨o, us, n, ho, hc, hd, _⟩ := x
  exact ⟨us, o, ho, hc, n, hd⟩
/-- == of two items -/
theorem it_eq {x y : KI} {u v : Value} {Q : Bool → Shared → Prop} (hu : A.units < cLine) (hx : itIs P w s.heap x u) (hy : itIs P w s.heap y v) (q : Q (decide (x = y)) s) : wpAny (model P w) A (eqBool u v) Q E s := by
  cases x with
  | inl k =>
    cases y with
    | inl l =>
      refine (mixKind P w).eqBool hx hy ?_
      have : decide ((.inl k : KI) = .inl l) = decide (k = l) := by
        by_cases e : k = l
        · rw [decide_eq_true e, decide_eq_true (by rw [e])]
        · rw [decide_eq_false e, decide_eq_false (fun z => e (Sum.inl.inj z))]
      rw [← this]
      exact q
    | inr l =>
      obtain ⟨b, rfl, hb⟩ := hy
      obtain ⟨us, hT⟩ := key_is hb
      rw [show decide ((.inl k : KI) = .inr l) = false from decide_eq_false fun z => by cases z] at q
      rcases keyIs_shape hx with ⟨i, t, rfl, rfl⟩ | ⟨z, t, rfl, rfl⟩
      · exact SeqAt.EqAt.int_tuple i t hT hu _ _ _ _ q
      · exact SeqAt.EqAt.str_tuple z t hT hu _ _ _ _ q
  | inr k =>
    obtain ⟨a, rfl, ha⟩ := hx
    cases y with
    | inl l =>
      obtain ⟨us, hT⟩ := key_is ha
      rw [show decide ((.inr k : KI) = .inl l) = false from decide_eq_false fun z => by cases z] at q
      rcases keyIs_shape hy with ⟨i, t, rfl, rfl⟩ | ⟨z, t, rfl, rfl⟩
      · exact SeqAt.EqAt.tuple_int i t hT hu _ _ _ _ q
      · exact SeqAt.EqAt.tuple_str z t hT hu _ _ _ _ q
    | inr l =>
      obtain ⟨b, rfl, hb⟩ := hy
      refine wpAny_eqBool_tuple hu ha hb ?_
      have : decide ((.inr k : KI) = .inr l) = decide (k = l) := by
        by_cases e : k = l
        · rw [decide_eq_true e, decide_eq_true (by rw [e])]
        · rw [decide_eq_false e, decide_eq_false (fun z => e (Sum.inr.inj z))]
      rw [← this]
      exact q
theorem it_hash {k : KI} {v : Value} {Q : Int → Shared → Prop} (hu : A.units < cLine) (hk : itIs P w s.heap k v) (q : Q (itHash P w k) { s with toks := s.toks + itDr k }) : wpAny (model P w) A (pyHash v) Q E s := by
  cases k with
  | inl k => exact (mixKind P w).pyHash hk q
  | inr l =>
    obtain ⟨b, rfl, hb⟩ := hk
    exact wpAny_pyHash_tuple hu hb q
/-- a tuple that tells nothing when it is compared: of items of which each tells nothing -/
theorem quiet_tup {a : Addr} {o : Obj} {us : Array Value} {n m : Nat} {Q : Bool → Shared → Prop} (ho : s.heap.get? a = some o) (hc : o.cls = .type "tuple") (hd : o.data = .seq us n)
    (hv : ∀ v ∈ us.toList, ∀ (Q' : Bool → Shared → Prop) (E' : Value → Shared → Prop), Q' true s → wpAny (model P w) A (eqIsQuiet m v) Q' E' s) (q : Q true s) : wpAny (model P w) A (eqIsQuiet (m + 1) (.ref a)) Q E s := by
  have hT : s.TypeIs (.ref a) "tuple" := ⟨o, ho, hc⟩
  unfold eqIsQuiet
  refine wpAny_bind (wpAny_specialOf hT (F.slot_tuple_eq.lookup) ?_)
  show wpAny _ _ (isInstance (.ref a) (.type "tuple") >>= _) Q E s
  refine wpAny_bind (wpAny_isInstance hT (isSubtype_tuple_tuple) ?_)
  simp only [Bool.not_true, Bool.false_eq_true, if_false]
  refine wpAny_bind (wpAny_seqItems ho hd ?_)
  refine wpAny_bind ?_
  show wpAny _ _ (forIn us _ _) _ _ s
  rw [← Array.forIn_toList]
  refine wpAny_forIn_list _ (fun left r s' => r.1 = none ∧ s' = s ∧ ∀ v ∈ left, v ∈ us.toList) _ ?_ ?_ _ _ ⟨rfl, rfl, fun _ h => h⟩
  · rintro v left r s' ⟨hr, rfl, hall⟩
    refine wpAny_bind (hv v (hall v List.mem_cons_self) _ _ ?_)
    simp only [Bool.not_true, Bool.false_eq_true, if_false]
    exact wpAny_pure ⟨rfl, rfl, fun u h => hall u (List.mem_cons_of_mem _ h)⟩
  · rintro ⟨r1, r2⟩ s' ⟨hr, rfl, _⟩
    simp only at hr
    subst hr
    exact wpAny_pure q
theorem quiet_flat {l : List Key} {b : Addr} {m : Nat} {Q : Bool → Shared → Prop} (hk : IsTupleKey (mixKind P w) s.heap l b) (q : Q true s) : wpAny (model P w) A (eqIsQuiet (m + 1) (.ref b)) Q E s := by
  obtain ⟨o, us, n, ho, hc, hd, hi⟩ := hk
  refine quiet_tup ho hc hd (fun v hv Q' E' q' => ?_) q
  rw [eqIsQuiet_byValue _ (hi.byValue v hv)]
  exact wpAny_pure q'
theorem Its.mem {ks : K2} {vs : List Value} (x : Its P w h ks vs) : ∀ v ∈ vs, ∃ k, itIs P w h k v := by
  induction x with
  | nil => intro v hv; cases hv
  | @cons k v' _ _ a _ ih =>
    intro v hv
    rcases List.mem_cons.mp hv with e | hv
    · rw [e]; exact ⟨k, a⟩
    · exact ih v hv
theorem quiet_k2 {ks : K2} {a : Addr} {Q : Bool → Shared → Prop} (hk : IsK2 P w s.heap ks a) (q : Q true s) : wpAny (model P w) A (eqIsQuiet 8 (.ref a)) Q E s := by
  obtain ⟨o, us, n, ho, hc, hd, hi⟩ := hk
  refine quiet_tup (m := 7) ho hc hd (fun v hv Q' E' q' => ?_) q
  obtain ⟨k, hk⟩ := hi.mem v hv
  cases k with
  | inl k =>
    rw [eqIsQuiet_byValue _ ((mixKind P w).byValue k v hk)]
    exact wpAny_pure q'
  | inr l =>
    obtain ⟨b, rfl, hb⟩ := hk
    exact quiet_flat (m := 6) hb q'
def k2Hash (P : Program) (w : World) (ks : K2) : Int := reduceHash (Builtin.Tuple.tupleHashOf (ks.map (itHash P w)))
def k2Dr (ks : K2) : Nat := (ks.map itDr).sum + 1
theorem hash_k2 {ks : K2} {a : Addr} {Q : Int → Shared → Prop} (hu : A.units + 1 < cLine) (hk : IsK2 P w s.heap ks a) (q : Q (k2Hash P w ks) { s with toks := s.toks + k2Dr ks }) : wpAny (model P w) A (pyHash (.ref a)) Q E s := by
  have hT := hk.ty
  obtain ⟨o, us, n, ho, _, hd, hi⟩ := hk
  unfold pyHash
  first | unfold pyHashByItsType | skip
  first | refine wpAny_bind (wpAny_cRoomFor_or (.inr (by omega)) ?_) | skip
  refine wpAny_bind (wpAny_specialOf hT (F.slot_tuple_hash.lookup) ?_)
  show wpAny _ _ (if (some (Value.builtin "tuple.__hash__") == some Value.none) = true then _ else _) Q E s
  rw [if_neg (by rw [beq_builtin_none]; intro z; cases z)]
  refine wpAny_bind (wpAny_specialOf hT (F.slot_tuple_hash.lookup) ?_)
  show wpAny _ _ (callSpecialIfBoundUnlessNone? (.ref a) "__hash__" _ >>= _) Q E s
  refine wpAny_bind (wpAny_callSpecialIfBoundUnlessNone?_slot hT F.slot_tuple_hash (wpAny_call_entry F.slot_tuple_hash hT F.entry_tuple_hash ?_ (F.args_tuple_hash_1 _)))
  show wpAny _ _ (Builtin.Tuple.tupleItemsOf (.ref a) >>= _) _ _ s
  refine wpAny_bind (wpAny_tupleItemsOf ho hd ?_)
  refine wpAny_bind ?_
  rw [← Array.forIn_toList]
  refine wpAny_forIn_list _ (fun left (b : Array Int) s' => ∃ pre post, ks = pre ++ post ∧ Its P w s.heap post left ∧ b.toList = pre.map (itHash P w) ∧ s' = { s with toks := s.toks + (pre.map itDr).sum }) _ ?_ ?_ _ _ ⟨[], ks, rfl, hi, rfl, rfl⟩
  · rintro x left b s' ⟨pre, post, rfl, hl, hb, rfl⟩
    cases hl with
    | @cons k _ ks' _ h1 hl' =>
      refine wpAny_bind (it_hash hu h1 ?_)
      first
        | exact wpAny_pure ⟨pre ++ [k], ks', by simp, hl', by simp [hb], by simp [Nat.add_assoc]⟩
        | exact wpAny_bind (wpAny_pure (wpAny_pure ⟨pre ++ [k], ks', by simp, hl', by simp [hb], by simp [Nat.add_assoc]⟩))
  · rintro b s' ⟨pre, post, rfl, hl, hb, rfl⟩
    cases hl
    rw [List.append_nil] at q
    show wpAny _ _ (retInt (Builtin.Tuple.tupleHashOf b.toList)) _ _ _
    rw [hb]
    refine wpAny_ret_mkInt ?_
    show wpAny _ _ (if (decide (-(2 : Int) ^ 63 ≤ Builtin.Tuple.tupleHashOf (pre.map (itHash P w))) && decide (Builtin.Tuple.tupleHashOf (pre.map (itHash P w)) < 2 ^ 63)) = true then _ else _) Q E _
    unfold k2Hash k2Dr reduceHash at q
    by_cases hr : (decide (-(2 : Int) ^ 63 ≤ Builtin.Tuple.tupleHashOf (pre.map (itHash P w))) && decide (Builtin.Tuple.tupleHashOf (pre.map (itHash P w)) < 2 ^ 63)) = true
    · rw [if_pos hr]
      rw [if_pos hr] at q
      exact wpAny_pure (by simpa [Nat.add_assoc] using q)
    · rw [if_neg hr]
      rw [if_neg hr] at q
      exact wpAny_bind (wpAny_rule (wpAny_pure (by simpa [Nat.add_assoc] using q)))
/-- == of two keys -/
theorem eq_k2_tree {x y : K2} {a b : Addr} {R : Fin → Shared → Prop} (hu : A.units < cLine) (hx : IsK2 P w s.heap x a) (hy : IsK2 P w s.heap y b) (q : R (.done (.ret (.bool (decide (x = y))))) s) :
    wpAny (model P w) A (Builtin.«tuple.__eq__» ⟨[.ref a, .ref b], []⟩) R E s := by
  have hTb := hy.ty
  obtain ⟨oa, us, na, hoa, _, hda, hia⟩ := hx
  obtain ⟨ob, vs, nb, hob, _, hdb, hib⟩ := hy
  show wpAny _ _ (isInstance (.ref b) (.type "tuple") >>= _) _ _ s
  refine wpAny_bind (wpAny_isInstance hTb (isSubtype_tuple_tuple) ?_)
  simp only [Bool.not_true, Bool.false_eq_true, if_false]
  refine wpAny_bind (wpAny_tupleItemsOf hoa hda ?_)
  refine wpAny_bind (wpAny_tupleItemsOf hob hdb ?_)
  refine wpAny_bind ?_
  refine wpAny_forIn_list _ (fun left r s' => r.1 = none ∧ s' = s ∧ ∃ x' y' us' vs', left = List.zip us' vs' ∧ Its P w s.heap x' us' ∧ Its P w s.heap y' vs' ∧ decide (x' = y') = decide (x = y) ∧ (us'.length == vs'.length) = (us.size == vs.size)) _ ?_ ?_ _ _ ⟨rfl, rfl, x, y, us.toList, vs.toList, rfl, hia, hib, rfl, by simp⟩
  · rintro ⟨u, v⟩ left r s' ⟨hr, rfl, x', y', us', vs', hz, hx', hy', hdec, hlen⟩
    cases hx' with
    | nil => simp at hz
    | @cons k1 u' x2 us2 h1 hx2 =>
      cases hy' with
      | nil => simp at hz
      | @cons k2 v' y2 vs2 h2 hy2 =>
        simp only [List.zip_cons_cons, List.cons.injEq, Prod.mk.injEq] at hz
        obtain ⟨⟨rfl, rfl⟩, rfl⟩ := hz
        refine wpAny_bind (it_eq (x := k1) (y := k2) hu h1 h2 ?_)
        by_cases hk : k1 = k2
        · subst hk
          rw [decide_eq_true rfl]
          simp only [Bool.not_true, Bool.false_eq_true, if_false]
          refine wpAny_pure ⟨rfl, rfl, x2, y2, us2, vs2, rfl, hx2, hy2, ?_, by simpa using hlen⟩
          rw [← hdec]
          by_cases hxy : x2 = y2 <;> simp [hxy]
        · rw [decide_eq_false hk]
          simp only [Bool.not_false, if_true]
          have hf : decide (x = y) = false := by rw [← hdec]; simp [hk]
          rw [hf] at q
          exact wpAny_bind (wpAny_pure (wpAny_pure (wpAny_pure q)))
  · rintro ⟨r1, r2⟩ s' ⟨hr, rfl, x', y', us', vs', hz, hx', hy', hdec, hlen⟩
    simp only at hr
    subst hr
    refine wpAny_pure ?_
    have hfin : (us.size == vs.size) = decide (x = y) := by
      rw [← hdec, ← hlen]
      cases hx' with
      | nil => cases hy' with
        | nil => simp
        | cons _ _ => simp
      | cons _ _ => cases hy' with
        | nil => simp
        | cons _ _ => simp at hz
    show R (.done (.ret (.bool (us.size == vs.size)))) s'
    rw [hfin]
    exact q
theorem eq_k2 {x y : K2} {a b : Addr} {Q : Bool → Shared → Prop} (hu : A.units + 1 < cLine) (hx : IsK2 P w s.heap x a) (hy : IsK2 P w s.heap y b) (q : Q (decide (x = y)) s) : wpAny (model P w) A (eqBool (.ref a) (.ref b)) Q E s := by
  by_cases hab : a = b
  · subst hab
    have e := hx.inj hy
    subst e
    rw [decide_eq_true rfl] at q
    exact SeqAt.EqAt.same _ _ _ _ _ q
  · refine SeqAt.eqP_refs hab (fun E' Q' q' => ?_) E Q q
    exact wpAny_richCompare_same_room (op := .Eq) hx.ty hy.ty F.slot_tuple_eq (wpAny_call_entry F.slot_tuple_eq hx.ty F.entry_tuple_eq (eq_k2_tree (by show A.units + 1 < cLine; exact hu) hx hy ⟨_, rfl, (fun e => nomatch e), q'⟩) (F.args_tuple_eq_2 _ _)) (by omega)
/-- keys of two levels, as the library's words about dicts ask for them -/
def k2Kind (P : Program) (w : World) : HeapKind P w K2 where
  is := IsK2 P w
  hash := k2Hash P w
  draws := k2Dr
  room := fun A => A.units + 1 < cLine
  inj := fun hx hy => hx.inj hy
  keeps := fun x ho hd hs => x.keeps ho hd hs
  pyHash := fun hu hk h => hash_k2 hu hk h
  eqBool := fun hu hx hy h => eq_k2 hu hx hy h
  quiet := fun hk h => quiet_k2 hk h
/-- a dict in which so many keys were stored as stand in it, and none taken away -/
def DctL (P : Program) (w : World) (h : Heap) (d : Addr) (xs : List (K2 × Addr × Value)) : Prop := ∃ (o : Obj) (es : Array DictEntry), h.get? d = some o ∧ o.ExactDict ∧ o.data = .dict es xs.length ∧ es.toList = xs.map (entryOfKey (k2Kind P w)) ∧ (∀ x ∈ xs, IsK2 P w h x.1 x.2.1) ∧ (xs.map (·.1)).Nodup
theorem DctL.of {d : Addr} {xs : List (K2 × Addr × Value)} (x : DctL P w h d xs) : h.DictOfH (k2Kind P w) d xs := let ⟨o, es, a, b, c, r⟩ := x; ⟨o, es, _, a, b, c, r⟩
end
end Nk
/-! Dicts whose keys are tuples of two levels: what is looked up, whether a key is there, what is stored, a new one. -/
namespace Nk
open PySem PySem.Spec PyProof.Rows L2
/-- the tuple at b is the key ks -/
def KIat (H : Hp) : KI → V → Prop
  | .inl k, v => v = kV k
  | .inr l, v => ∃ c, v = .ref c ∧ H c = some (.tup (l.map kV))
def KeyAt (H : Hp) (ks : K2) (b : Addr) : Prop := ∃ vs, H b = some (.tup vs) ∧ Paired (KIat H) ks vs
/-- the place of a key and what stands there -/
def findN (xs : List (K2 × Addr × V)) (k : K2) : Option (Addr × V) := (xs.find? fun x => decide (x.1 = k)).map (·.2)
def putN (xs : List (K2 × Addr × V)) (k : K2) (b : Addr) (v : V) : List (K2 × Addr × V) := if (findN xs k).isSome then xs.map fun x => if x.1 = k then (x.1, x.2.1, v) else x else xs ++ [(k, b, v)]
section
variable {P : Program} {w : World} {H : Hp} {h : Heap}
end
section
variable {X : Cx} {pins : List (Addr × Obj)} {σ : L2.St} {H : Hp} {s : Shared} {A : Around} {E : Value → Shared → Prop} {a b : Addr} {k : K2} {xs : List (K2 × Addr × V)} {hs : K2 → Int}
end
/-! ### rules -/
section
variable {X : Cx}
end
end Nk
/-! Dicts whose keys are tuples of two levels, over trees. -/
namespace Wv
open PySem PySem.Spec PyProof.Rows L2 Evl Nk
section
variable {g : Gx} {c : Cc} {H H1 H' : Hp} {σ : L2.St} {env e1 : List Sl} {so : Option Addr} {O : Addr → Prop} {K : PySem.W.Frag} {ta tb te tv ty : TE} {P : Dt → List Sl → Prop} {x y : V} {E : De} {hs : K2 → Int}
theorem ky_rv {k : Key} (r : Rv so O H x (kyD k)) : x = kV k := by
  cases k with
  | inl i => exact int_rv r
  | inr z => exact (str_rv r).1
theorem kys_rv : ∀ {l : List Key} {xs : List V}, Rvs so O H xs (l.map kyD) → xs = l.map kV
  | [], [], _ => rfl
  | [], _ :: _, r => by have := r.1; simp at this
  | _ :: _, [], r => by have := r.1; simp at this
  | k :: l, x :: xs, r => by
    rw [List.map_cons, ky_rv (r.2 0 x _ rfl rfl), kys_rv (l := l) (xs := xs) ⟨by have := r.1; simpa using this, fun i x d e1 e2 => r.2 (i + 1) x d e1 e2⟩]
theorem ki_rv {k : KI} (r : Rv so O H x (kiD k)) : KIat H k x := by
  cases k with
  | inl k => exact ky_rv r
  | inr l =>
    obtain ⟨a, xs, rfl, _, h, rs, _⟩ := tup_rv r
    exact ⟨a, rfl, by rw [h, kys_rv rs]⟩
theorem kis_rv : ∀ {l : K2} {xs : List V}, Rvs so O H xs (l.map kiD) → Paired (KIat H) l xs
  | [], [], _ => .nil
  | [], _ :: _, r => by have := r.1; simp at this
  | _ :: _, [], r => by have := r.1; simp at this
  | k :: l, x :: xs, r => .cons (ki_rv (r.2 0 x _ rfl rfl)) (kis_rv (l := l) (xs := xs) ⟨by have := r.1; simpa using this, fun i x d e1 e2 => r.2 (i + 1) x d e1 e2⟩)
theorem key_rv {k : K2} (r : Rv so O H x (k2D k)) : ∃ b, x = .ref b ∧ KeyAt H k b := by
  obtain ⟨a, xs, rfl, _, h, rs, _⟩ := tup_rv r
  exact ⟨a, rfl, xs, h, kis_rv rs⟩
/-- what a tree of such a dict holds -/
def dlN (kvs : List (K2 × Dt)) (k : K2) : Option Dt := (kvs.find? fun kv => decide (kv.1 = k)).map (·.2)
def dpN (kvs : List (K2 × Dt)) (k : K2) (v : Dt) : List (K2 × Dt) := if (dlN kvs k).isSome then kvs.map fun kv => if kv.1 = k then (kv.1, v) else kv else kvs ++ [(k, v)]
/-- the dict's places and trees -/
structure TbN (so : Option Addr) (O : Addr → Prop) (H : Hp) (xs : List (K2 × Addr × V)) (ds : List (K2 × Dt)) : Prop where
  ks : xs.map (·.1) = ds.map (·.1)
  kb : ∀ (i : Nat) k b x, xs[i]? = some (k, b, x) → Rv so O H (.ref b) (k2D k)
  vs : ∀ (i : Nat) k b x k' d, xs[i]? = some (k, b, x) → ds[i]? = some (k', d) → Rv so O H x d
theorem TbN.keys {xs : List (K2 × Addr × V)} {ds : List (K2 × Dt)} (t : TbN so O H xs ds) : ∀ q ∈ xs, KeyAt H q.1 q.2.1 := fun q hq => by
  obtain ⟨i, hi⟩ := List.mem_iff_getElem?.mp hq
  obtain ⟨b, e, h⟩ := key_rv (t.kb i q.1 q.2.1 q.2.2 hi)
  cases e
  exact h
theorem TbN.len {xs : List (K2 × Addr × V)} {ds : List (K2 × Dt)} (t : TbN so O H xs ds) : xs.length = ds.length := by
  have := congrArg List.length t.ks
  simpa using this
theorem TbN.tail {p : K2 × Addr × V} {q : K2 × Dt} {xs : List (K2 × Addr × V)} {ds : List (K2 × Dt)} (t : TbN so O H (p :: xs) (q :: ds)) : p.1 = q.1 ∧ Rv so O H (.ref p.2.1) (k2D p.1) ∧ Rv so O H p.2.2 q.2 ∧ TbN so O H xs ds := by
  obtain ⟨h1, h2, h3⟩ := t
  rw [List.map_cons, List.map_cons] at h1
  obtain ⟨e1, e2⟩ := List.cons.inj h1
  exact ⟨e1, h2 0 p.1 p.2.1 p.2.2 rfl, h3 0 p.1 p.2.1 p.2.2 q.1 q.2 rfl rfl, e2, fun i => h2 (i + 1), fun i => h3 (i + 1)⟩
theorem TbN.cons {k : K2} {b : Addr} {x : V} {d : Dt} {xs : List (K2 × Addr × V)} {ds : List (K2 × Dt)} (rb : Rv so O H (.ref b) (k2D k)) (r : Rv so O H x d) (t : TbN so O H xs ds) : TbN so O H ((k, b, x) :: xs) ((k, d) :: ds) := by
  refine ⟨by rw [List.map_cons, List.map_cons, t.ks], fun i k' b' x' e => ?_, fun i k' b' x' k2 d' e e2 => ?_⟩
  · cases i with
    | zero => cases e; exact rb
    | succ i => exact t.kb i k' b' x' e
  · cases i with
    | zero => cases e; cases e2; exact r
    | succ i => exact t.vs i k' b' x' k2 d' e e2
theorem TbN.nil : TbN so O H [] [] := ⟨rfl, fun i k b x e => by simp at e, fun i k b x k' d e => by simp at e⟩
theorem TbN.find {k : K2} : ∀ {xs : List (K2 × Addr × V)} {ds : List (K2 × Dt)}, TbN so O H xs ds → match dlN ds k with
    | some t => ∃ p x, findN xs k = some (p, x) ∧ Rv so O H x t
    | none => findN xs k = none
  | [], [], _ => rfl
  | [], _ :: _, t => by have := t.len; simp at this
  | _ :: _, [], t => by have := t.len; simp at this
  | p :: xs, q :: ds, t => by
    obtain ⟨h1, h2, h3, h4⟩ := t.tail
    have ih := TbN.find (k := k) h4
    unfold dlN findN at ih ⊢
    rw [List.find?_cons, List.find?_cons, ← h1]
    by_cases e : p.1 = k
    · simp only [e, decide_true]
      exact ⟨p.2.1, p.2.2, rfl, h3⟩
    · simp only [e, decide_false]
      exact ih
theorem TbN.some {k : K2} {xs : List (K2 × Addr × V)} {ds : List (K2 × Dt)} (t : TbN so O H xs ds) : (findN xs k).isSome = (dlN ds k).isSome := by
  have := t.find (k := k)
  cases e : dlN ds k with
  | none => rw [e] at this; rw [this]; rfl
  | some u =>
    rw [e] at this
    obtain ⟨p, x, h, _⟩ := this
    rw [h]
    rfl
theorem TbN.put {k : K2} {b : Addr} {x : V} {d : Dt} {xs : List (K2 × Addr × V)} {ds : List (K2 × Dt)} (rb : Rv so O H (.ref b) (k2D k)) (r : Rv so O H x d) (t : TbN so O H xs ds) : TbN so O H (putN xs k b x) (dpN ds k d) := by
  unfold putN dpN
  rw [t.some]
  split
  · have mp : ∀ {l : List (K2 × Addr × V)} {m : List (K2 × Dt)}, TbN so O H l m → TbN so O H (l.map fun y => if y.1 = k then (y.1, y.2.1, x) else y) (m.map fun kv => if kv.1 = k then (kv.1, d) else kv) := by
      intro l
      induction l with
      | nil =>
        intro m t
        cases m with
        | nil => exact .nil
        | cons => have := t.len; simp at this
      | cons p l ih =>
        intro m t
        cases m with
        | nil => have := t.len; simp at this
        | cons q m =>
          obtain ⟨h1, h2, h3, h4⟩ := t.tail
          rw [List.map_cons, List.map_cons]
          obtain ⟨p1, p2, p3⟩ := p
          obtain ⟨q1, q2⟩ := q
          have h1 : p1 = q1 := h1
          subst h1
          by_cases e : p1 = k
          · rw [if_pos e, if_pos e]; exact .cons h2 r (ih h4)
          · rw [if_neg e, if_neg e]; exact .cons h2 h3 (ih h4)
    exact mp t
  · have app : ∀ {l : List (K2 × Addr × V)} {m : List (K2 × Dt)}, TbN so O H l m → TbN so O H (l ++ [(k, b, x)]) (m ++ [(k, d)]) := by
      intro l
      induction l with
      | nil =>
        intro m t
        cases m with
        | nil => exact .cons rb r .nil
        | cons => have := t.len; simp at this
      | cons p l ih =>
        intro m t
        cases m with
        | nil => have := t.len; simp at this
        | cons q m =>
          obtain ⟨h1, h2, h3, h4⟩ := t.tail
          obtain ⟨p1, p2, p3⟩ := p
          obtain ⟨q1, q2⟩ := q
          have h1 : p1 = q1 := h1
          subst h1
          exact .cons h2 h3 (ih h4)
    exact app t
theorem TbN.keep {A : Addr → Prop} {xs : List (K2 × Addr × V)} {ds : List (K2 × Dt)} (t : TbN so O H xs ds) (k : Ko O A H H') : TbN so O H' xs ds := ⟨t.ks, fun i a b x e => (t.kb i a b x e).keep k, fun i a b x a' d e e2 => (t.vs i a b x a' d e e2).keep k⟩
theorem TbN.mono {O' : Addr → Prop} {xs : List (K2 × Addr × V)} {ds : List (K2 × Dt)} (t : TbN so O H xs ds) (h : ∀ a, O' a → O a) : TbN so O' H xs ds := ⟨t.ks, fun i a b x e => (t.kb i a b x e).mono h, fun i a b x a' d e e2 => (t.vs i a b x a' d e e2).mono h⟩
end
end Wv
/-! Dicts whose keys are tuples of two levels: get with a word for what is not there; comprehensions. -/
namespace Nk
open PySem PySem.Spec PyProof.Rows L2
section
variable {X : Cx} {pins : List (Addr × Obj)} {σ : L2.St} {H : Hp} {s : Shared} {A : Around} {E : Value → Shared → Prop} {a b : Addr} {k : K2} {xs : List (K2 × Addr × V)} {hs : K2 → Int}
end
end Nk
/-! Dict comprehensions, the dict standing as any object that a store can be shown of: here those whose keys are tuples of two levels. -/
namespace Nk
open PySem PySem.Spec PyProof.Rows L2
/-- how a dict stands: as new, and behind a store -/
structure Sto (P : Program) (w : World) where
  new : Addr → HO
  put : Addr → V → V → Hp → (Hp → Prop) → Prop
  hnew : ∀ (H : Hp) (h : Heap), sysModules < h.objs.size → ObjOk P w H (h.push { cls := .type "dict", data := .dict #[] }) h.objs.size (new h.objs.size)
  hput : ∀ {X : Cx} {A : Around} {pins : List (Addr × Obj)} {σ : L2.St} {H : Hp} {s : Shared} {D : Addr} {y z : V} {u r : Value} {N : Hp → Prop} {Q : Unit → Shared → Prop} {E : Value → Shared → Prop}, X.prog = P → X.w = w → A.units + 2 < cLine → Inv X pins σ H s → put D y z H N → RelV y u → RelV z r →
    (∀ H' s', N H' → Inv X pins σ H' s' → Q () s') → wpAny (model P w) A (dictSet D u r) Q E s
section
variable {X : Cx} {P : Program} {w : World}
end
end Nk
/-! Promises of new lists and dicts. -/
namespace Wv
open PySem PySem.Spec PyProof.Rows L2 Evl
section
variable {g : Gx} {c : Cc} {H H1 H' : Hp} {σ : L2.St} {env : List Sl} {so : Option Addr} {K : PySem.W.Frag} {te : TE} {t u : TS} {P : Dt → List Sl → Prop}
/-- a promise of a new list or dict, told of trees -/
def spF (K : PySem.W.Frag) (lk : Bool) (R : Rd3) : Sp := fun vs H Q E => ∃ (so : Option Addr) (cc : Ct) (O : Addr → Prop) (ds : List Dt) (P : Dt → Prop) (xe : Addr → List (Str × Dt) → Prop),
  Hb K ⟨H, so, cc, O, lk, lk⟩ H ∧ Rvs so O H vs ds ∧ R ds P xe ∧ (∀ a d H', P d → Hb K (Cc.add ⟨H, so, cc, O, lk, lk⟩ a) H' → H a = none → Ol so (fun b => O b ∨ b = a) H' a d → Q (.ref a) H') ∧ Lk ⟨K, E, xe, lk, []⟩ ⟨H, so, cc, O, lk, lk⟩
theorem spF.w {lk : Bool} {R : Rd3} {vs : List V} {Q : VK} {E : XK} (h : spW K lk R vs H Q E) : spF K lk R vs H Q E := by
  obtain ⟨so, cc, O, ds, P, xe, hb, rs, hR, hQ, L⟩ := h
  refine ⟨so, cc, O, ds, P, xe, hb, rs, hR, fun a d H' p b n o => ?_, L⟩
  exact hQ _ d H' p (b.less (g := ⟨K, E, xe, lk, []⟩) hb.sO) ((o.mono fun x z => .inl z).rv fun z => hb.dom a z n)
end
end Wv
/-! Behind a call no dict is locked that was not locked ahead of it: a promise that may lock is one that does not. -/
namespace Wv
open PySem PySem.Spec PyProof.Rows L2 Evl
section
variable {P : Program} {w : World} {K : PySem.W.Frag} {H H' : Hp} {so : Option Addr} {O : Addr → Prop} {x : V} {d : Dt} {a : Addr} {o : HO} {h h' : Heap}
end
end Wv
/-! Objects of a def's own: instances some of whose fields are lists and dicts that change. -/
namespace Wv
open PySem PySem.Spec PyProof.Rows L2 Evl
/-- a field: a tree, or a list or dict of the object's own at a place -/
inductive Fd where
  | pl (d : Dt) | ow (b : Addr) (d : Dt)
def Fd.tr : Fd → Dt
  | .pl d => d
  | .ow _ d => d
def FdI (so : Option Addr) (O : Addr → Prop) (H : Hp) (x : V) : Fd → Prop
  | .pl d => Rv so O H x d
  | .ow b d => x = .ref b ∧ Ol so O H b d
def obRg (fs : List (Str × Fd)) (b : Addr) : Prop := ∃ k d, (k, Fd.ow b d) ∈ fs
structure ObI (C dx : Addr) (fs : List (Str × Fd)) (so : Option Addr) (O : Addr → Prop) (H : Hp) (a : Addr) : Prop where
  at_ : ∃ xs : List (Str × V), H a = some (.ins C dx xs) ∧ xs.map (·.1) = fs.map (·.1) ∧ ∀ (i : Nat) k x k' f, xs[i]? = some (k, x) → fs[i]? = some (k', f) → FdI so O H x f
  na : ∀ b, obRg fs b → b ≠ a
  un : ∀ (i j : Nat) k k' b d d', fs[i]? = some (k, .ow b d) → fs[j]? = some (k', .ow b d') → i = j
section
variable {so : Option Addr} {O O' : Addr → Prop} {H H' : Hp} {C dx a : Addr} {fs : List (Str × Fd)} {x : V} {f : Fd}
theorem ObI.map (h : ObI C dx fs so O H a) (ha : ∀ xs, H a = some (.ins C dx xs) → H' a = some (.ins C dx xs)) (hf : ∀ k x f, (k, f) ∈ fs → FdI so O H x f → FdI so O' H' x f) : ObI C dx fs so O' H' a := by
  obtain ⟨xs, h1, h2, h3⟩ := h.at_
  exact ⟨⟨xs, ha xs h1, h2, fun i k x k' f e1 e2 => hf k' x f (List.mem_of_getElem? e2) (h3 i k x k' f e1 e2)⟩, h.na, h.un⟩
/-- a field changes -/
def Fd.to (d : Dt) : Fd → Fd
  | .ow b _ => .ow b d
  | .pl _ => .pl d
def setF (fs : List (Str × Fd)) (f : Str) (d : Dt) : List (Str × Fd) := fs.map fun p => if p.1 = f then (p.1, p.2.to d) else p
theorem ObI.get {f : Str} {b : Addr} {d : Dt} (h : ObI C dx fs so O H a) (hf : fs.lookup f = some (.ow b d)) : ∃ xs : List (Str × V), H a = some (.ins C dx xs) ∧ xs.lookup f = some (.ref b) ∧ Ol so O H b d := by
  obtain ⟨xs, h1, h2, h3⟩ := h.at_
  have key : ∀ {xs : List (Str × V)} {fs : List (Str × Fd)}, xs.map (·.1) = fs.map (·.1) → (∀ (i : Nat) k x k' f, xs[i]? = some (k, x) → fs[i]? = some (k', f) → FdI so O H x f) → fs.lookup f = some (.ow b d) → ∃ y, xs.lookup f = some y ∧ FdI so O H y (.ow b d) := by
    intro xs
    induction xs with
    | nil => intro fs e _ hl; cases fs with
      | nil => cases hl
      | cons p r => simp at e
    | cons p xs ih =>
      intro fs e hi hl
      cases fs with
      | nil => simp at e
      | cons q fs =>
        obtain ⟨k, y⟩ := p
        obtain ⟨k', g⟩ := q
        simp only [List.map_cons, List.cons.injEq] at e
        obtain ⟨rfl, e⟩ := e
        rw [List.lookup_cons] at hl ⊢
        by_cases hk : (f == k) = true
        · rw [hk] at hl ⊢
          cases hl
          exact ⟨y, rfl, hi 0 k y k _ rfl rfl⟩
        · have hk : (f == k) = false := by simpa using hk
          rw [hk] at hl ⊢
          exact ih e (fun i k x k' f e1 e2 => hi (i + 1) k x k' f e1 e2) hl
  obtain ⟨y, e1, e2, e3⟩ := key h2 h3 hf
  subst e2
  exact ⟨xs, h1, e1, e3⟩
theorem look_mem {f : Str} {g : Fd} : ∀ {fs : List (Str × Fd)}, fs.lookup f = some g → (f, g) ∈ fs
  | p :: fs, h => by
    rw [List.lookup_cons] at h
    by_cases hk : (f == p.1) = true
    · rw [hk] at h
      cases h
      have : f = p.1 := by simpa using hk
      rw [this]
      exact List.mem_cons_self ..
    · have hk : (f == p.1) = false := by simpa using hk
      rw [hk] at h
      exact List.mem_cons_of_mem _ (look_mem h)
end
section
variable {g : Gx} {c : Cc} {H H1 H2 H' : Hp} {σ : L2.St} {env e1 : List Sl} {ta tb te : TE} {P : Dt → List Sl → Prop} {x : V} {d : Dt} {E : De} {C dx a : Addr} {fs : List (Str × Fd)} {i : Nat} {r : Reg} {t : Dt}
/-- the field f of an own object becomes d -/
theorem ObI.upd {so : Option Addr} {O : Addr → Prop} {f : Str} {b : Addr} {d e : Dt} {o : HO} (h : ObI C dx fs so O H a) (hn : (fs.map (·.1)).Nodup) (hf : fs.lookup f = some (.ow b d)) (hO : O b) (ho : Ol so O (upd H b o) b e) : ObI C dx (setF fs f e) so O (upd H b o) a := by
  have hm := look_mem hf
  have nb : b ≠ a := h.na b ⟨f, d, hm⟩
  obtain ⟨xs, h1, h2, h3⟩ := h.at_
  have nm : (setF fs f e).map (·.1) = fs.map (·.1) := by
    unfold setF
    rw [List.map_map]
    refine List.map_congr_left fun p _ => ?_
    show (if p.1 = f then _ else p : Str × Fd).1 = p.1
    split <;> rfl
  obtain ⟨i0, hi0⟩ := List.getElem?_of_mem hm
  have at_ : ∀ {i k g}, (setF fs f e)[i]? = some (k, g) → ∃ g0, fs[i]? = some (k, g0) ∧ ((i = i0 ∧ k = f ∧ g = .ow b e ∧ g0 = .ow b d) ∨ (i ≠ i0 ∧ g = g0)) := fun {i k g} z => by
    unfold setF at z
    rw [List.getElem?_map] at z
    cases e0 : fs[i]? with
    | none => rw [e0] at z; cases z
    | some p =>
      rw [e0] at z
      obtain ⟨k0, g0⟩ := p
      have uq : k0 = f → i = i0 := fun q => by
        have e1 : (fs.map (·.1))[i]? = some f := by rw [List.getElem?_map, e0]; simp [q]
        have e2 : (fs.map (·.1))[i0]? = some f := by rw [List.getElem?_map, hi0]; rfl
        obtain ⟨l1, f1⟩ := List.getElem?_eq_some_iff.mp e1
        obtain ⟨l2, f2⟩ := List.getElem?_eq_some_iff.mp e2
        exact (List.getElem_inj hn).mp (f1.trans f2.symm)
      have z : (if k0 = f then (k0, g0.to e) else (k0, g0)) = (k, g) := Option.some.inj z
      by_cases q : k0 = f
      · have := uq q
        subst this
        rw [e0] at hi0
        cases hi0
        rw [if_pos rfl] at z
        cases z
        exact ⟨_, rfl, .inl ⟨rfl, rfl, rfl, rfl⟩⟩
      · rw [if_neg q] at z
        cases z
        refine ⟨_, rfl, .inr ⟨fun w => q ?_, rfl⟩⟩
        subst w
        rw [e0] at hi0
        cases hi0
        rfl
  have rgs : ∀ y, obRg (setF fs f e) y → obRg fs y := fun y ⟨k, d', hk⟩ => by
    obtain ⟨i, hi⟩ := List.getElem?_of_mem hk
    obtain ⟨g0, z1, z2⟩ := at_ hi
    rcases z2 with ⟨_, _, z, w⟩ | ⟨_, z⟩
    · cases z; exact ⟨k, d, by rw [w] at z1; exact List.mem_of_getElem? z1⟩
    · exact ⟨k, d', by rw [← z] at z1; exact List.mem_of_getElem? z1⟩
  refine ⟨⟨xs, by rw [upd_ne (Ne.symm nb)]; exact h1, by rw [nm]; exact h2, fun i k x k' g e1 e2 => ?_⟩, fun y hy => h.na y (rgs y hy), fun i j k k' y d1 d2 e1 e2 => ?_⟩
  · obtain ⟨g0, z1, z2⟩ := at_ e2
    have hx := h3 i k x k' g0 e1 z1
    rcases z2 with ⟨_, _, rfl, rfl⟩ | ⟨n, rfl⟩
    · exact ⟨hx.1, ho⟩
    · cases g with
      | pl d' => exact Rv.keep (A := O) hx (Ko.mut hO)
      | ow b' d' =>
        have nbb : b' ≠ b := fun q => n (h.un i i0 _ _ b' d' d z1 (by rw [q]; exact hi0))
        exact ⟨hx.1, hx.2.keep (A := O) (Ko.mut hO) (upd_ne nbb)⟩
  · obtain ⟨g1, z1, z2⟩ := at_ e1
    obtain ⟨g2, w1, w2⟩ := at_ e2
    have f1 : ∃ d, g1 = .ow y d := by
      rcases z2 with ⟨_, _, q, q'⟩ | ⟨_, q⟩
      · cases q; exact ⟨_, q'⟩
      · exact ⟨_, q.symm⟩
    have f2 : ∃ d, g2 = .ow y d := by
      rcases w2 with ⟨_, _, q, q'⟩ | ⟨_, q⟩
      · cases q; exact ⟨_, q'⟩
      · exact ⟨_, q.symm⟩
    obtain ⟨d1', rfl⟩ := f1
    obtain ⟨d2', rfl⟩ := f2
    exact h.un i j _ _ y _ _ z1 w1
end
section
variable {g : Gx} {c : Cc} {H H1 H2 H' : Hp} {σ : L2.St} {env e1 : List Sl} {ta tb te : TE} {tu : TA} {P : Dt → List Sl → Prop} {x : V} {d : Dt} {E : De} {C dx a : Addr} {fs : List (Str × Fd)} {i : Nat} {r : Reg} {t : Dt} {K : PySem.W.Frag}
/-- behind a call that changed the object in slot i -/
theorem Sv.changed {lk : Bool} {r' : Reg} {t' : Dt} (S : Sv g.K c H σ env) (hk : lkle lk c.lk) (h0 : env[i]? = some (.own (.ob r t)))
    (had : r'.ad = r.ad) (hrg : ∀ b, r'.rg b ↔ r.rg b) (hb : Ko (fun a => Chg c.so c.cc a ∨ (a = r.ad ∨ r.rg a)) (fun a => lk = false ∨ Av c σ env a) H H') (st : Stt g.K c.so c.cc H') (ho : Oo c.so (Av c σ env) H' r.ad (.ob r' t')) :
    Sv g.K c H' σ (env.set i (.own (.ob r' t'))) ∧ Fw c σ env H σ (env.set i (.own (.ob r' t'))) H' := by
  obtain ⟨y, h1, h2, h3, h4⟩ := S.own i _ h0
  have ey : y = r.ad := r.pin _ _ _ _ h4.1
  subst ey
  have pl : ∀ a, (a = r.ad ∨ r.rg a) → Oa σ i (.ob r t) a := fun a z => z.imp (fun z => by rw [z]; exact h1) id
  have kk : ∀ a, An c σ env a → lk = false ∨ Av c σ env a := fun a z => by
    cases lk with
    | false => exact .inl rfl
    | true => exact .inr (z.elim (fun z => by rw [hk rfl] at z; cases z) id)
  have kM : Ko (Mv c σ env) (An c σ env) H H' := hb.mono (fun a z => z.imp id fun z => ⟨i, _, h0, pl a z⟩) kk
  have hr : ∀ b, (Dt.ob r' t').rg b ↔ (Dt.ob r t).rg b := hrg
  have av : ∀ a, Av c σ (env.set i (.own (.ob r' t'))) a → Av c σ env a := fun a z => (av_put h0 hr).mp z
  have back : ∀ {j e' b}, (env.set i (.own (.ob r' t')))[j]? = some (Sl.own e') → Oa σ j e' b → ∃ d1, env[j]? = some (Sl.own d1) ∧ Oa σ j d1 b := fun {j e' b} z w => by
    rcases Sl.get_set z with ⟨ej, q⟩ | ⟨_, z⟩
    · cases q
      exact ⟨_, by rw [ej]; exact h0, (oa_put hr).mp w⟩
    · exact ⟨_, z, w⟩
  refine ⟨⟨⟨⟨fun a u n z => ?_, fun a z => hb.2 a (S.base.2 a z)⟩, S.lkb, S.sO, fun a z => hb.2 a (S.dom a z), st⟩, by rw [S.len, List.length_set], fun j k e' f b z1 z2 z3 z4 => ?_, fun j e' b z1 z2 => ?_, fun j r z => ?_, fun j e' z => ?_, fun j e' z => ?_⟩, kM, fun a z => .inl ((ow_put h0 hr).mp z)⟩
  · have np : ¬ (a = r.ad ∨ r.rg a) := fun q => by rw [(S.oa h0 (pl a q)).1] at z; cases z
    rcases S.base.1 a u n z with z1 | ⟨z1, kvs, od, rfl, z2⟩
    · refine (hb.1 a u (fun q => q.elim n np) z1).imp id fun ⟨w1, w2⟩ => ⟨fun q => ?_, w2⟩
      exact w1 (q.elim (fun q => kk a (.inl (by
        cases e : c.lk with
        | false => rfl
        | true => rw [S.lkb e] at q; cases q))) fun q => .inr (.inl q))
    · rcases hb.1 a _ (fun q => q.elim n np) z2 with w | ⟨_, _, _, w, _⟩
      · exact .inr ⟨z1, kvs, od, rfl, w⟩
      · cases w
  · obtain ⟨d1, w1, q1⟩ := back z1 z3
    obtain ⟨d2, w2, q2⟩ := back z2 z4
    exact S.uniq j k d1 d2 b w1 w2 q1 q2
  · rcases Sl.get_set z1 with ⟨ej, q⟩ | ⟨_, z⟩
    · cases q
      exact S.reg i _ b h0 ((hr b).mp z2)
    · exact S.reg j e' b z z2
  · rcases Sl.get_set z with ⟨_, z⟩ | ⟨_, z⟩
    · cases z
    · exact S.fzs j r z
  · rcases Sl.get_set z with ⟨_, z⟩ | ⟨_, z⟩
    · cases z
    · obtain ⟨y, k1, k2⟩ := S.tree j e' z
      exact ⟨y, k1, (S.kp k2 kM).mono av⟩
  · rcases Sl.get_set z with ⟨ej, z⟩ | ⟨n, z⟩
    · cases z
      subst ej
      exact ⟨r.ad, h1, h2, h3, ho.mono av⟩
    · obtain ⟨y, k1, k2, k3, k4⟩ := S.own j e' z
      refine ⟨y, k1, k2, k3, (k4.keepR (kM.mono (Mv.av S.sO) fun _ z => z) fun b hb' => ?_).mono av⟩
      have oa : Oa σ j e' b := hb'.elim (fun e => .inl (by rw [e]; exact k1)) .inr
      exact hb.same (fun q => q.elim (fun q => (S.oa z oa).2.1 (S.sO b q).1) fun q => n (S.uniq j i e' _ b z h0 oa (pl b q))) (.inr (.inr ⟨j, _, z, oa⟩)) (pl_some (S.oa z oa).2.2)
end
section
variable {g : Gx} {c : Cc} {H H1 H2 H' : Hp} {σ : L2.St} {env e1 : List Sl} {ta tb te te0 : TE} {tu : TA} {P : Dt → List Sl → Prop} {x : V} {d : Dt} {E : De} {C dx a : Addr} {fs : List (Str × Fd)} {i : Nat} {r : Reg} {t : Dt} {K : PySem.W.Frag}
/-! ### objects made -/
end
end Wv
/-! Graphs of a def's own: places with lists, dicts and instances in them that may change and that hold each other (Dt.ad). -/
namespace Wv
open PySem PySem.Spec PyProof.Rows L2 Evl
abbrev Gr := Addr → Option Dt
def gput (G : Gr) (b : Addr) (d : Dt) : Gr := fun x => if x = b then some d else G x
theorem gput_same {G : Gr} {b : Addr} {d : Dt} : gput G b d b = some d := if_pos rfl
theorem gput_ne {G : Gr} {b x : Addr} {d : Dt} (h : x ≠ b) : gput G b d x = G x := if_neg h
/-- what a place of a graph holds -/
def Oc (so : Option Addr) (O : Addr → Prop) (H : Hp) (b : Addr) : Dt → Prop
  | .ins C fs => ∃ dx xs, H b = some (.ins C dx xs) ∧ Tb so O H xs fs
  | d => Ol so O H b d
section
variable {so : Option Addr} {O O' : Addr → Prop} {H H' : Hp} {b : Addr} {d : Dt}
theorem Ol.oc (h : Ol so O H b d) : Oc so O H b d := by
  cases d with
  | ins C fs => exact h.elim
  | _ => exact h
theorem Oc.cs {X : Prop} (h : Oc so O H b d) (h1 : Ol so O H b d → X) (h2 : ∀ C fs, d = .ins C fs → (∃ dx xs, H b = some (.ins C dx xs) ∧ Tb so O H xs fs) → X) : X := by
  cases d with
  | ins C fs => exact h2 C fs rfl h
  | _ => exact h1 h
theorem Oc.keep {A : Addr → Prop} (h : Oc so O H b d) (k : Ko O A H H') (ha : H' b = H b) : Oc so O H' b d :=
  h.cs (fun z => (z.keep k ha).oc) fun C fs e ⟨dx, xs, h1, h2⟩ => by subst e; exact ⟨dx, xs, by rw [ha]; exact h1, h2.keep k⟩
theorem Oc.mono (h : Oc so O H b d) (hO : ∀ a, O' a → O a) : Oc so O' H b d :=
  h.cs (fun z => (z.mono hO).oc) fun C fs e ⟨dx, xs, h1, h2⟩ => by subst e; exact ⟨dx, xs, h1, h2.mono hO⟩
theorem Oc.avoid (h : Oc so O H b d) (hO : ∀ a, O' a → O a ∨ H a = none) : Oc so O' H b d :=
  h.cs (fun z => (z.avoid hO).oc) fun C fs e ⟨dx, xs, h1, h2⟩ => by subst e; exact ⟨dx, xs, h1, h2.1, fun i k x k' d e1 e2 => (h2.2 i k x k' d e1 e2).avoid hO⟩
theorem Oc.pl (h : Oc so O H b d) : Pl H b :=
  h.cs (fun z => z.pl) fun C fs e ⟨dx, xs, h1, h2⟩ => ⟨_, h1, (fun _ z => nomatch z), (fun _ z => nomatch z)⟩
theorem Oc.rv (h : Oc so O H b d) (n : ¬ O b) : Rv so O H (.ref b) d :=
  h.cs (fun z => z.rv n) fun C fs e ⟨dx, xs, h1, h2⟩ => by subst e; exact .ins (dx := dx) n h1 h2.1 h2.2
end
/-- a graph with its root -/
noncomputable def grR (G : Gr) (a : Addr) : Reg where
  ad := a
  rg := fun b => G b ≠ none
  I := fun so O H x => x = a ∧ G a ≠ none ∧ ∀ b d, G b = some d → Oc so O H b d
  keep := fun so O A H H' x ⟨e, r, h⟩ k ha => ⟨e, r, fun b d z => (h b d z).keep k (ha b (.inr (by rw [z]; exact fun w => nomatch w)))⟩
  mono := fun so O O' H x ⟨e, r, h⟩ hO => ⟨e, r, fun b d z => (h b d z).mono hO⟩
  avoid := fun so O O' H x ⟨e, r, h⟩ hO => ⟨e, r, fun b d z => (h b d z).avoid hO⟩
  pl := fun so O H x ⟨e, r, h⟩ b hb => by
    have : G b ≠ none := hb.elim (fun z => by rw [z, e]; exact r) id
    cases q : G b with
    | none => exact absurd q this
    | some d => exact (h b d q).pl
  pin := fun so O H x h => h.1
noncomputable def gD (a : Addr) (G : Gr) : Dt := .ob (grR G a) .opq
section
variable {g : Gx} {c : Cc} {H H1 H2 H' : Hp} {σ : L2.St} {env e1 : List Sl} {ta tb te td ty tv : TE} {tu : TA} {t : TS} {P : Dt → List Sl → Prop} {x : V} {d : Dt} {E : De} {a b p : Addr} {G G' : Gr} {i j : Nat} {so : Option Addr} {O : Addr → Prop} {K : PySem.W.Frag}
theorem gr_some (z : G b = some d) : G b ≠ none := by rw [z]; exact fun w => nomatch w
theorem gr_oo (r : G a ≠ none) (h : ∀ b d, G b = some d → Oc so O H b d) : Oo so O H a (gD a G) := ⟨⟨rfl, r, h⟩, .opq⟩
theorem gr_at (S : Sv g.K c H σ env) (h : env[i]? = some (.own (gD a G))) : σ[i]? = some (some (V.ref a)) ∧ G a ≠ none ∧ ∀ b d, G b = some d → Oc c.so (Av c σ env) H b d := by
  obtain ⟨y, h1, _, _, h4⟩ := S.own i _ h
  obtain ⟨⟨rfl, r, o⟩, _⟩ := h4
  exact ⟨h1, r, o⟩
theorem gr_oa (hb : G b ≠ none) : Oa σ i (gD a G) b := .inr hb
theorem gr_av (h : env[i]? = some (.own (gD a G))) (hb : G b ≠ none) : Av c σ env b := .inr ⟨i, _, h, gr_oa hb⟩
theorem gput_some {x : Addr} (hb : G b ≠ none) : gput G b d x ≠ none ↔ G x ≠ none := by
  unfold gput
  by_cases e : x = b
  · rw [if_pos e, e]; exact ⟨fun _ => hb, fun _ => fun w => nomatch w⟩
  · rw [if_neg e]
/-- a place changes -/
theorem Sv.putG {o : HO} (S : Sv g.K c H σ env) (h : env[i]? = some (.own (gD a G))) (hb : G b ≠ none) (ho : Oc c.so (Av c σ env) (upd H b o) b d) :
    Sv g.K c (upd H b o) σ (env.set i (.own (gD a (gput G b d)))) ∧ Fw c σ env H σ (env.set i (.own (gD a (gput G b d)))) (upd H b o) := by
  obtain ⟨h1, r, ob⟩ := gr_at S h
  have hr : ∀ y, (gD a (gput G b d)).rg y ↔ (gD a G).rg y := fun y => gput_some hb
  refine ⟨S.putR h (gr_oa hb) h1 hr (gr_oo ((gput_some hb).mpr r) fun y e z => ?_), fw_putR h (gr_oa hb) hr⟩
  by_cases q : y = b
  · subst q
    rw [gput_same] at z
    cases z
    exact ho
  · rw [gput_ne q] at z
    exact (ob y e z).keep (A := c.O) (Ko.mut (gr_av h hb)) (upd_ne q)
theorem le_put (hr : ∀ y, G' y ≠ none → G y ≠ none) (h : env[i]? = some (.own (gD a G))) : Le (env.set i (.own (gD b G'))) env := fun j e z => by
  rcases Sl.get_set z with ⟨ej, q⟩ | ⟨_, z⟩
  · cases q
    rw [ej]
    exact ⟨_, h, hr⟩
  · exact ⟨e, z, fun _ q => q⟩
/-- the graph of a slot is another one from here on: places may be new, or let go -/
theorem Sv.chG {lk : Bool} (S : Sv g.K c H σ env) (hk : lkle lk c.lk) (h0 : env[i]? = some (.own (gD a G))) (r : G' a ≠ none) (hn : ∀ b, G' b ≠ none → G b ≠ none ∨ H b = none)
    (hb : Ko (fun y => Chg c.so c.cc y ∨ G y ≠ none) (fun y => lk = false ∨ Av c σ env y) H H') (st : Stt g.K c.so c.cc H') (ho : ∀ b d, G' b = some d → Oc c.so (fun y => Av c σ (env.set i (.own (gD a G'))) y) H' b d) :
    Sv g.K c H' σ (env.set i (.own (gD a G'))) ∧ Fw c σ env H σ (env.set i (.own (gD a G'))) H' := by
  obtain ⟨h1, r0, ob⟩ := gr_at S h0
  obtain ⟨y0, w1, hB, hO, _⟩ := S.own i _ h0
  rw [h1] at w1
  cases w1
  have kk : ∀ y, An c σ env y → lk = false ∨ Av c σ env y := fun y z => by
    cases lk with
    | false => exact .inl rfl
    | true => exact .inr (z.elim (fun z => by rw [hk rfl] at z; cases z) id)
  have gav : ∀ y, G y ≠ none → Av c σ env y := fun y z => gr_av h0 z
  have kM : Ko (Mv c σ env) (An c σ env) H H' := hb.mono (fun y z => z.imp id fun z => ⟨i, _, h0, .inr z⟩) kk
  have ini : ∀ y, Oa σ i (gD a G') y → G' y ≠ none := fun y z => by
    rcases z with z | z
    · rw [h1] at z; cases z; exact r
    · exact z
  have owG : ∀ y, G' y ≠ none → c.B y = none ∧ ¬ c.O y := fun y z => by
    rcases hn y z with w | w
    · obtain ⟨q1, q2, _⟩ := S.oa h0 (gr_oa w)
      exact ⟨q1, q2⟩
    · exact ⟨base_none S w, fun q => S.dom y q w⟩
  have ows : ∀ y, Ow σ (env.set i (.own (gD a G'))) y → Ow σ env y ∨ H y = none := fun y ⟨j, e, z1, z2⟩ => by
    rcases Sl.get_set z1 with ⟨ej, q⟩ | ⟨nj, q⟩
    · cases q
      subst ej
      exact (hn y (ini y z2)).imp (fun w => ⟨j, _, h0, .inr w⟩) id
    · exact .inl ⟨j, e, q, z2⟩
  have avs : ∀ y, Av c σ (env.set i (.own (gD a G'))) y → Av c σ env y ∨ H y = none := fun y z => by
    rcases z with z | z
    · exact .inl (.inl z)
    · exact (ows y z).imp .inr id
  -- another slot's own places
  have sep : ∀ j e y, j ≠ i → env[j]? = some (Sl.own e) → Oa σ j e y → G' y = none := fun j e y nj z1 z2 => by
    cases q : G' y with
    | none => rfl
    | some u =>
      rcases hn y (by rw [q]; exact fun w => nomatch w) with w | w
      · exact absurd (S.uniq j i e _ y z1 h0 z2 (.inr w)) nj
      · exact absurd w (pl_some (S.oa z1 z2).2.2)
  have gone : ∀ y, c.B y ≠ none → ¬ (G y ≠ none) := fun y z w => z (S.oa h0 (gr_oa w)).1
  refine ⟨⟨⟨⟨fun y u n z => ?_, fun y z => hb.2 y (S.base.2 y z)⟩, S.lkb, S.sO, fun y z => hb.2 y (S.dom y z), st⟩, by rw [S.len, List.length_set], fun j k e f y z1 z2 z3 z4 => ?_, fun j e y z1 z2 => ?_, fun j r z => ?_, fun j e z => ?_, fun j e z => ?_⟩, kM, ows⟩
  · have ng : ¬ (G y ≠ none) := gone y (by rw [z]; exact fun w => nomatch w)
    rcases S.base.1 y u n z with z1 | ⟨z1, kvs, od, rfl, z2⟩
    · refine (hb.1 y u (fun q => q.elim n ng) z1).imp id fun ⟨w1, w2⟩ => ⟨fun q => w1 ?_, w2⟩
      exact q.elim (fun q => kk y (.inl (by
        cases e : c.lk with
        | false => rfl
        | true => rw [S.lkb e] at q; cases q))) fun q => .inr (.inl q)
    · rcases hb.1 y _ (fun q => q.elim n ng) z2 with w | ⟨_, _, _, w, _⟩
      · exact .inr ⟨z1, kvs, od, rfl, w⟩
      · cases w
  · rcases Sl.get_set z1 with ⟨n1, q1⟩ | ⟨n1, w1⟩
    · rcases Sl.get_set z2 with ⟨n2, _⟩ | ⟨n2, w2⟩
      · rw [n1, n2]
      · cases q1
        subst n1
        exact absurd (sep k f y n2 w2 z4) (ini y z3)
    · rcases Sl.get_set z2 with ⟨n2, q2⟩ | ⟨n2, w2⟩
      · cases q2
        subst n2
        exact absurd (sep j e y n1 w1 z3) (ini y z4)
      · exact S.uniq j k e f y w1 w2 z3 z4
  · rcases Sl.get_set z1 with ⟨ej, q⟩ | ⟨_, z⟩
    · cases q
      exact owG y z2
    · exact S.reg j e y z z2
  · rcases Sl.get_set z with ⟨_, z⟩ | ⟨_, z⟩
    · cases z
    · exact S.fzs j r z
  · rcases Sl.get_set z with ⟨_, z⟩ | ⟨_, z⟩
    · cases z
    · obtain ⟨y, k1, k2⟩ := S.tree j e z
      refine ⟨y, k1, (k2.avoid (O' := fun y => Av c σ env y ∨ G' y ≠ none) fun y z => ?_).keep (A := fun y => Av c σ env y) (hb.mono (O' := fun y => Av c σ env y ∨ G' y ≠ none) ?_ ?_) |>.mono fun y z => ?_⟩
      · rcases z with z | z
        · exact .inl z
        · exact (hn y z).imp (gav y) id
      · exact fun y z => .inl (z.elim (fun z => .inl (S.sO y z).1) (gav y))
      · exact fun y z => .inr z
      · rcases z with z | ⟨j, e, z1, z2⟩
        · exact .inl (.inl z)
        · rcases Sl.get_set z1 with ⟨ej, q⟩ | ⟨_, q⟩
          · cases q
            subst ej
            exact .inr (ini y z2)
          · exact .inl (.inr ⟨j, e, q, z2⟩)
  · rcases Sl.get_set z with ⟨ej, z⟩ | ⟨n, z⟩
    · cases z
      subst ej
      exact ⟨a, h1, hB, hO, gr_oo r ho⟩
    · obtain ⟨y, k1, k2, k3, k4⟩ := S.own j e z
      have oa : ∀ b, b = y ∨ e.rg b → Oa σ j e b := fun b hb => hb.elim (fun q => .inl (by rw [q]; exact k1)) .inr
      refine ⟨y, k1, k2, k3, ((k4.avoid (O' := fun y => Av c σ env y ∨ G' y ≠ none) fun y z => ?_).keepR (A := fun y => Av c σ env y) (hb.mono (O' := fun y => Av c σ env y ∨ G' y ≠ none) ?_ ?_) fun b hb' => ?_).mono fun y z => ?_⟩
      · rcases z with z | z
        · exact .inl z
        · exact (hn y z).imp (gav y) id
      · exact fun y z => .inl (z.elim (fun z => .inl (S.sO y z).1) (gav y))
      · exact fun y z => .inr z
      · have ob := oa b hb'
        exact hb.same (fun q => q.elim (fun q => (S.oa z ob).2.1 (S.sO b q).1) fun q => n (S.uniq j i e _ b z h0 ob (.inr q))) (.inr (.inr ⟨j, _, z, ob⟩)) (pl_some (S.oa z ob).2.2)
      · rcases z with z | ⟨j', e', z1, z2⟩
        · exact .inl (.inl z)
        · rcases Sl.get_set z1 with ⟨ej, q⟩ | ⟨_, q⟩
          · cases q
            subst ej
            exact .inr (ini y z2)
          · exact .inl (.inr ⟨j', e', q, z2⟩)
end
end Wv
/-! Rules of expressions and statements over graphs. -/
namespace Wv
open PySem PySem.Spec PyProof.Rows L2 Evl
section
variable {g : Gx} {c : Cc} {H H1 H2 H' : Hp} {σ : L2.St} {env e1 : List Sl} {ta tb te td ty tv : TE} {tu : TA} {t : TS} {P : Dt → List Sl → Prop} {x : V} {d : Dt} {E : De} {a b p : Addr} {G G' : Gr} {i j : Nat} {so : Option Addr} {O : Addr → Prop} {K : PySem.W.Frag}
/-- a graph in slot i -/
abbrev GAt (e : List Sl) (i : Nat) (a : Addr) (G : Gr) : Prop := e[i]? = some (Sl.own (gD a G))
theorem ad_rv (r : Rv so O H x (.ad b)) : x = .ref b := by cases r; rfl
/-- the object itself -/
theorem et_selfG (h0 : env[i]? = some (.own (gD a G))) (p : P (.ad a) env) : Et g env (tVar i) P := fun c L σ H S Q q => ⟨.ref a, (gr_at S h0).1, q _ (.ad a) env H p S Le.refl Ko.refl .ad⟩
/-- a place as a tree, its own graph not seen -/
theorem gr_rv (S : Sv g.K c H σ env) (h0 : env[i]? = some (.own (gD a G))) (hb : G b = some d) : Rv c.so (fun y => Av c σ env y ∧ G y = none) H (.ref b) d :=
  (((gr_at S h0).2.2 b d hb).mono fun y z => z.1).rv fun z => by rw [hb] at z; cases z.2
theorem et_opLG {r : R2} {f : Dt → Dt → (Dt → Prop) → Prop} (hr : Rop g.K r f) (h : Et g env ta fun d e1 => ∃ b, d = .ad b ∧ Et g e1 tb fun k e2 => ∃ i a G u, GAt e2 i a G ∧ G b = some u ∧ f u k fun t => scl t = true ∧ P t e2) : Et g env (tOp r ta tb) P := fun c L σ H S Q q =>
  h c L σ H S _ fun x d e1 H1 ⟨b, ed, p1⟩ S1 l1 k1 r1 => p1 c L σ H1 S1 _ fun y k e2 H2 ⟨i, a, G, u, h0, hG, p2⟩ S2 l2 k2 r2 => by
    subst ed
    obtain rfl := ad_rv r1
    exact hr c.so (fun y => Av c σ e2 y ∧ G y = none) H2 _ y u k (fun y z => S2.lk_av y z.1) (gr_rv S2 h0 hG) (r2.mono fun y z => z.1) _ p2 Q fun z t H3 p3 e3 r3 =>
      q z t e2 H3 p3.2 (S2.ex e3) (l1.trans l2) ((k1.trans (k2.le l1)).trans (Ko.ex e3)) (r3.scal p3.1)
/-- len(e), any(e) .. -/
theorem et_cbG {r : List V → Hp → VK → Prop} {f : List Dt → (Dt → Prop) → Prop} (hr : Rcl g.K r f) (h : Et g env te fun d e => ∃ b i a G u, d = .ad b ∧ GAt e i a G ∧ G b = some u ∧ f [u] fun t => scl t = true ∧ P t e) : Et g env (tCB r (tCons te tNil)) P := fun c L σ H S Q q =>
  h c L σ H S _ fun x d e H1 ⟨b, i, a, G, u, ed, h0, hG, p⟩ S1 l1 k1 r1 => by
    subst ed
    obtain rfl := ad_rv r1
    exact hr c.so (fun y => Av c σ e y ∧ G y = none) H1 _ [u] (fun y z => S1.lk_av y z.1) (Rvs.cons (gr_rv S1 h0 hG) Rvs.nil) _ p Q fun z t H3 p3 e3 r3 =>
      q z t e H3 p3.2 (S1.ex e3) l1 (k1.trans (Ko.ex e3)) (r3.scal p3.1)
/-- d[k] = v -/
theorem wd_dputG (h : Et g env tv fun v e => Et g e td fun d e1 => ∃ b, d = .ad b ∧ Et g e1 ty fun k e2 => kD k fun j => ∃ i a G kvs, GAt e2 i a G ∧ G b = some (.dct kvs) ∧ kvs.length < Zz ∧ E.nx (e2.set i (.own (gD a (gput G b (.dct (dpt kvs j v))))))) : Wd g env (sDPut td ty tv) E := fun c L σ H S D n bk k r re =>
  h c L σ H S _ fun v dv e H1 p1 S1 l1 k1 r1 => p1 c L σ H1 S1 _ fun x d e1 H2 ⟨b, ed, p2⟩ S2 l2 k2 r2 => p2 c L σ H2 S2 _ fun y dk e2 H3 p3 S3 l3 k3 r3 => by
    subst ed
    obtain rfl := ad_rv r2
    obtain ⟨j, rfl, i, a, G, kvs, h0, hG, hl, p⟩ := kD_rv r3 p3
    obtain ⟨xs, z1, z2, z3, z4⟩ := (gr_at S3 h0).2.2 b _ hG
    have tb : Tb c.so (Av c σ e2) H3 xs kvs := ⟨z2, z4⟩
    have hp : Av c σ e2 b := gr_av h0 (gr_some hG)
    have rv := (S2.kp ((S1.kp r1 k2).mono (Av.le l2)) k3).mono (Av.le l3)
    have tb' := (tb.put (k := j) rv).keep (A := c.O) (Ko.mut (o := .dK (putK xs j v)) hp)
    obtain ⟨S4, F4⟩ := S3.putG (o := .dK (putK xs j v)) (d := .dct (dpt kvs j dv)) h0 (gr_some hG) ⟨_, upd_same, tb'.1, Nat.le_trans (dpt_len _ _ _) hl, tb'.2⟩
    exact ⟨b, _, rfl, .inl ⟨xs, j, z1, rfl, Nat.lt_of_lt_of_le (by rw [tb.len]; exact hl) (by decide), rfl⟩, n σ _ _ S4 ((((fw_e l1 k1).trans (fw_e l2 k2)).trans (fw_e l3 k3)).trans F4) p⟩
/-- a new place joins the graph of slot i -/
theorem Sv.addG (S : Sv g.K (c.add p) H σ env) (hs : SO c) (hp : ¬ c.O p) (hB : c.B p = none) (h0 : env[i]? = some (.own (gD a G))) (ho : Oc c.so (Av (c.add p) σ env) H p d) : Sv g.K c H σ (env.set i (.own (gD a (gput G p d)))) ∧ G p = none ∧ ∀ y, Ow σ (env.set i (.own (gD a (gput G p d)))) y → Ow σ env y ∨ y = p := by
  obtain ⟨h1, r0, ob⟩ := gr_at S h0
  obtain ⟨y0, w1, hBa, hOa, _⟩ := S.own i _ h0
  rw [h1] at w1
  cases w1
  have nop : ∀ j e, env[j]? = some (Sl.own e) → ¬ Oa σ j e p := fun j e h z => (S.oa h z).2.1 (.inr rfl)
  have gp : G p = none := by
    cases q : G p with
    | none => rfl
    | some u => exact absurd (.inr (gr_some q)) (nop i _ h0)
  have gs : ∀ y, gput G p d y ≠ none → G y ≠ none ∨ y = p := fun y z => by
    by_cases e : y = p
    · exact .inr e
    · rw [gput_ne e] at z; exact .inl z
  have ini : ∀ y, Oa σ i (gD a (gput G p d)) y → Oa σ i (gD a G) y ∨ y = p := fun y z => by
    rcases z with z | z
    · exact .inl (.inl z)
    · exact (gs y z).imp .inr id
  have ows : ∀ y, Ow σ (env.set i (.own (gD a (gput G p d)))) y → Ow σ env y ∨ y = p := fun y ⟨j, e, z1, z2⟩ => by
    rcases Sl.get_set z1 with ⟨ej, q⟩ | ⟨nj, q⟩
    · cases q
      subst ej
      exact (ini y z2).imp (fun w => ⟨j, _, h0, w⟩) id
    · exact .inl ⟨j, e, q, z2⟩
  have avs : ∀ y, Av c σ (env.set i (.own (gD a (gput G p d)))) y → Av (c.add p) σ env y := fun y z => by
    rcases z with z | z
    · exact .inl (.inl z)
    · exact (ows y z).elim .inr fun e => .inl (.inr e)
  have nap : p ≠ a := fun e => nop i _ h0 (.inl (by rw [e]; exact h1))
  refine ⟨⟨S.toHb.less hs, by rw [S.len, List.length_set], fun j k e f y z1 z2 z3 z4 => ?_, fun j e y z1 z2 => ?_, fun j r z => ?_, fun j e z => ?_, fun j e z => ?_⟩, gp, ows⟩
  · rcases Sl.get_set z1 with ⟨n1, q1⟩ | ⟨n1, w1⟩
    · rcases Sl.get_set z2 with ⟨n2, _⟩ | ⟨n2, w2⟩
      · rw [n1, n2]
      · cases q1
        subst n1
        rcases ini y z3 with w | w
        · exact S.uniq j k _ f y h0 w2 w z4
        · subst w
          exact absurd z4 (nop k f w2)
    · rcases Sl.get_set z2 with ⟨n2, q2⟩ | ⟨n2, w2⟩
      · cases q2
        subst n2
        rcases ini y z4 with w | w
        · exact S.uniq j k e _ y w1 h0 z3 w
        · subst w
          exact absurd z3 (nop j e w1)
      · exact S.uniq j k e f y w1 w2 z3 z4
  · rcases Sl.get_set z1 with ⟨ej, q⟩ | ⟨_, z⟩
    · cases q
      rcases gs y z2 with w | w
      · exact ⟨(S.reg i _ y h0 w).1, fun q => (S.reg i _ y h0 w).2 (.inl q)⟩
      · rw [w]; exact ⟨hB, hp⟩
    · exact ⟨(S.reg j e y z z2).1, fun q => (S.reg j e y z z2).2 (.inl q)⟩
  · rcases Sl.get_set z with ⟨_, z⟩ | ⟨_, z⟩
    · cases z
    · exact ⟨(S.fzs j r z).1, (S.fzs j r z).2.less fun b q e => pl_some (r.pl _ _ _ _ (S.fzs j r z).2.inv b q) (by rw [e]; exact hB)⟩
  · rcases Sl.get_set z with ⟨_, z⟩ | ⟨_, z⟩
    · cases z
    · obtain ⟨y, k1, k2⟩ := S.tree j e z
      exact ⟨y, k1, k2.mono avs⟩
  · rcases Sl.get_set z with ⟨ej, z⟩ | ⟨_, z⟩
    · cases z
      subst ej
      refine ⟨a, h1, hBa, fun q => hOa (.inl q), gr_oo (by rw [gput_ne (Ne.symm nap)]; exact r0) fun y e z => ?_⟩
      by_cases q : y = p
      · subst q
        rw [gput_same] at z
        cases z
        exact ho.mono avs
      · rw [gput_ne q] at z
        exact (ob y e z).mono avs
    · obtain ⟨y, k1, k2, k3, k4⟩ := S.own j e z
      exact ⟨y, k1, k2, fun q => k3 (.inl q), k4.mono avs⟩
end
end Wv
/-! Calls with graphs: methods that look at and change objects of a def's own. -/
namespace Wv
open PySem PySem.Spec PyProof.Rows L2 Evl
def msk (G : Gr) (H : Hp) : Hp := fun y => match G y with
  | some _ => none
  | none => H y
section
variable {g : Gx} {c : Cc} {H H1 H2 H' : Hp} {σ : L2.St} {env e1 : List Sl} {ta tb te td ty tv : TE} {tu : TA} {t : TS} {P : Dt → List Sl → Prop} {x : V} {d : Dt} {E : De} {a b p : Addr} {G G' : Gr} {i j : Nat} {so : Option Addr} {O : Addr → Prop} {K : PySem.W.Frag}
theorem msk_g {y : Addr} (h : G y ≠ none) : msk G H y = none := by
  unfold msk
  cases q : G y with
  | none => exact absurd q h
  | some _ => rfl
theorem msk_n {y : Addr} (h : G y = none) : msk G H y = H y := by
  unfold msk
  rw [h]
theorem msk_s {y : Addr} {o : HO} (h : msk G H y = some o) : G y = none ∧ H y = some o := by
  cases q : G y with
  | none => exact ⟨rfl, by rw [msk_n q] at h; exact h⟩
  | some u => rw [msk_g (gr_some q)] at h; cases h
/-- the surroundings of a callee that is handed the graph -/
def Cc.msk (c : Cc) (σ : L2.St) (env : List Sl) (H : Hp) (G : Gr) (lk : Bool) : Cc := ⟨Wv.msk G H, c.so, c.cc, fun y => Av c σ env y ∧ G y = none, lk, lk⟩
abbrev GM := Addr → Gr → List Dt → (Dt → Gr → Prop) → (Addr → List (Str × Dt) → Prop) → Prop
/-- the same places -/
def Kp (G G' : Gr) : Prop := ∀ y, G' y ≠ none ↔ G y ≠ none
theorem Kp.refl : Kp G G := fun _ => Iff.rfl
theorem Kp.trans {G2 : Gr} (h : Kp G G') (k : Kp G' G2) : Kp G G2 := fun y => (k y).trans (h y)
theorem Kp.put {G0 : Gr} (h : Kp G0 G) (hb : G b ≠ none) : Kp G0 (gput G b d) := fun y => (gput_some hb).trans (h y)
theorem Kp.on (h : Kp G G') (z : G b ≠ none) : G' b ≠ none := (h b).mpr z
end
end Wv
/-! Graphs: places that join or leave, objects made. -/
namespace Wv
open PySem PySem.Spec PyProof.Rows L2 Evl
section
variable {g : Gx} {c : Cc} {H H1 H2 H3 H' : Hp} {σ : L2.St} {env e1 : List Sl} {ta tb te td ty tv : TE} {tu : TA} {tt : TT} {t : TS} {P : Dt → List Sl → Prop} {x : V} {d : Dt} {E : De} {a b p : Addr} {G G' : Gr} {i j : Nat} {so : Option Addr} {O : Addr → Prop} {K : PySem.W.Frag}
/-- an own list or dict is no slot's own any more, but avoided -/
theorem Sv.unown (S : Sv g.K c H σ env) (hj : env[j]? = some (.own d)) (hd : ∀ r t, d ≠ .ob r t) : ∃ p, σ[j]? = some (some (V.ref p)) ∧ c.B p = none ∧ ¬ c.O p ∧ Sv g.K (c.add p) H σ (env.set j (.v (.ad p))) ∧ Ol c.so (Av (c.add p) σ (env.set j (.v (.ad p)))) H p d := by
  obtain ⟨p, h1, hB, hO, o⟩ := S.own j d hj
  have o : Ol c.so (Av c σ env) H p d := o.cs id fun r t e _ _ => absurd e (hd r t)
  have hp : Av c σ env p := .inr ⟨j, d, hj, .inl h1⟩
  have ows : ∀ y, Ow σ (env.set j (.v (.ad p))) y → Ow σ env y := Ow.le le_set_v
  have avs : ∀ y, Av (c.add p) σ (env.set j (.v (.ad p))) y → Av c σ env y := fun y z => by
    rcases z with (z | z) | z
    · exact .inl z
    · rw [z]; exact hp
    · exact .inr (ows y z)
  have back : ∀ {n e}, (env.set j (.v (.ad p)))[n]? = some (Sl.own e) → n ≠ j ∧ env[n]? = some (Sl.own e) := fun {n e} z => by
    rcases Sl.get_set z with ⟨_, w⟩ | ⟨w1, w2⟩
    · cases w
    · exact ⟨w1, w2⟩
  have np : ∀ {n e y}, n ≠ j → env[n]? = some (Sl.own e) → Oa σ n e y → y ≠ p := fun {n e y} h1' h2 h3 q => h1' (S.uniq n j e d y h2 hj h3 (.inl (by rw [q]; exact h1)))
  refine ⟨p, h1, hB, hO, ⟨⟨⟨fun y u n z => ?_, S.base.2⟩, S.lkb, fun y z => ⟨.inl (S.sO y z).1, fun s w => .inl ((S.sO y z).2 s w)⟩, fun y z => ?_, S.stt⟩, by rw [S.len, List.length_set], fun n m e f y z1 z2 z3 z4 => S.uniq n m e f y (back z1).2 (back z2).2 z3 z4, fun n e y z w => ?_, fun n r z => ?_, fun n e z => ?_, fun n e z => ?_⟩, o.mono avs⟩
  · rcases S.base.1 y u n z with w | ⟨w1, kvs, od, rfl, w2⟩
    · exact .inl w
    · refine .inr ⟨fun q => ?_, kvs, od, rfl, w2⟩
      rcases q with q | q | q
      · exact w1 (.inl q)
      · exact w1 (.inr q)
      · have q : y = p := q
        have z : c.B y = _ := z
        rw [q, hB] at z; cases z
  · rcases z with z | z
    · exact S.dom y z
    · have z : y = p := z
      rw [z]; exact o.some
  · obtain ⟨n1, n2⟩ := back z
    exact ⟨(S.reg n e y n2 w).1, fun q => q.elim (S.reg n e y n2 w).2 (np n1 n2 (.inr w))⟩
  · rcases Sl.get_set z with ⟨_, w⟩ | ⟨_, w⟩
    · cases w
    · exact ⟨(S.fzs n r w).1, (S.fzs n r w).2.add hB⟩
  · rcases Sl.get_set z with ⟨en, w⟩ | ⟨_, w⟩
    · cases w
      subst en
      exact ⟨_, h1, .ad⟩
    · obtain ⟨y, k1, k2⟩ := S.tree n e w
      exact ⟨y, k1, k2.mono avs⟩
  · obtain ⟨n1, n2⟩ := back z
    obtain ⟨y, k1, k2, k3, k4⟩ := S.own n e n2
    exact ⟨y, k1, k2, fun q => q.elim k3 (np n1 n2 (.inl k1)), k4.mono avs⟩
/-- an own list or dict joins the graph of another slot -/
theorem wd_join (h0 : GAt env i a G) (hj : env[j]? = some (.own d)) (hij : i ≠ j) (hd : ∀ r t, d ≠ .ob r t) (h : ∀ p, G p = none → Wd g ((env.set j (.v (.ad p))).set i (.own (gD a (gput G p d)))) t E) : Wd g env t E := fun c L σ H S D n b k r re => by
  obtain ⟨p, h1, hB, hO, S1, o⟩ := S.unown hj hd
  have h0' : GAt (env.set j (.v (.ad p))) i a G := by
    show (env.set j (.v (.ad p)))[i]? = _
    rw [List.getElem?_set, if_neg (Ne.symm hij)]
    exact h0
  obtain ⟨S2, gp, ow⟩ := S1.addG S.sO hO hB h0' o.oc
  have f0 : Fw c σ env H σ ((env.set j (.v (.ad p))).set i (.own (gD a (gput G p d)))) H := ⟨Ko.refl, fun y z => .inl ((ow y z).elim (Ow.le le_set_v y) fun e => by rw [e]; exact ⟨j, d, hj, .inl h1⟩)⟩
  exact h p gp c L σ H S2 D (fun σ2 H2 e2 S2 f2 z => n σ2 H2 e2 S2 (f0.trans f2) z) (fun σ2 H2 e2 S2 f2 z => b σ2 H2 e2 S2 (f0.trans f2) z) (fun σ2 H2 e2 S2 f2 z => k σ2 H2 e2 S2 (f0.trans f2) z)
    (fun x d H' p hb kf rv => r x d H' p hb (Fw.trans f0 (σ2 := σ) (e2 := (env.set j (.v (.ad _))).set i (.own (gD a (gput G _ _)))) ⟨kf, fun a z => .inl z⟩).1 rv) fun x d σ2 H2 e2 p S2 f2 rv => re x d σ2 H2 e2 p S2 (f0.trans f2) rv
/-- e is e0 with the place b told as the tree d -/
def Sub (b : Addr) (d e0 e : Dt) : Prop := e = e0 ∨ ∃ xs ys, e0 = .lst xs ∧ e = .lst ys ∧ xs.length = ys.length ∧ ∀ (i : Nat) x y, xs[i]? = some x → ys[i]? = some y → y = x ∨ (x = .ad b ∧ y = d)
/-- a place leaves the graph: a tree from then on -/
theorem Sv.gfz (S : Sv g.K c H σ env) (h0 : GAt env i a G) (hb : G b = some d) (hba : b ≠ a) (r : G' a ≠ none) (hG : ∀ q e, G' q = some e → q ≠ b ∧ ∃ e0, G q = some e0 ∧ Sub b d e0 e) : Sv g.K c H σ (env.set i (.own (gD a G'))) ∧ Fw c σ env H σ (env.set i (.own (gD a G'))) H := by
  obtain ⟨s1, ra, ob⟩ := gr_at S h0
  have gs : ∀ y, G' y ≠ none → G y ≠ none := fun y z => by
    cases q : G' y with
    | none => exact absurd q z
    | some e => obtain ⟨_, e0, h, _⟩ := hG y e q; exact gr_some h
  have gb : G' b = none := by
    cases q : G' b with
    | none => rfl
    | some e => exact absurd rfl (hG b e q).1
  have avs : ∀ y, Av c σ (env.set i (.own (gD a G'))) y → Av c σ env y := Av.le (le_put gs h0)
  have nb : ¬ Av c σ (env.set i (.own (gD a G'))) b := fun z => by
    rcases z with z | ⟨j, f, z1, z2⟩
    · exact (S.oa h0 (gr_oa (gr_some hb))).2.1 z
    · rcases Sl.get_set z1 with ⟨ej, w⟩ | ⟨nj, w⟩
      · cases w
        subst ej
        rcases z2 with z2 | z2
        · rw [s1] at z2; cases z2; exact hba rfl
        · exact z2 gb
      · exact nj (S.uniq j i f _ b w h0 z2 (gr_oa (gr_some hb)))
  refine S.chG (lk := false) (fun z => nomatch z) h0 r (fun y z => .inl (gs y z)) Ko.refl S.stt fun q e z => ?_
  obtain ⟨_, e0, hq, hs⟩ := hG q e z
  have o := (ob q e0 hq)
  rcases hs with rfl | ⟨xs, ys, rfl, rfl, hl, hx⟩
  · exact o.mono avs
  · obtain ⟨vs, w1, w2, w3, w4⟩ := o
    refine ⟨vs, w1, by rw [w2, hl], by rw [← hl]; exact w3, fun n v y e1 e2 => ?_⟩
    obtain ⟨x0, hx0⟩ : ∃ x0, xs[n]? = some x0 := ⟨xs[n]'(by have := (List.getElem?_eq_some_iff.mp e2).1; omega), List.getElem?_eq_getElem _⟩
    have rv := w4 n v x0 e1 hx0
    rcases hx n x0 y hx0 e2 with rfl | ⟨rfl, rfl⟩
    · exact rv.mono avs
    · obtain rfl := ad_rv rv
      exact ((ob b _ hb).mono avs).rv nb
theorem wd_ghost (hf : ∀ c σ H, Sv g.K c H σ env → Sv g.K c H σ e1 ∧ Fw c σ env H σ e1 H) (h : Wd g e1 t E) : Wd g env t E := fun c L σ H S D n b k r re => by
  obtain ⟨S2, f0⟩ := hf c σ H S
  exact h c L σ H S2 D (fun σ2 H2 e2 S2 f2 z => n σ2 H2 e2 S2 (f0.trans f2) z) (fun σ2 H2 e2 S2 f2 z => b σ2 H2 e2 S2 (f0.trans f2) z) (fun σ2 H2 e2 S2 f2 z => k σ2 H2 e2 S2 (f0.trans f2) z)
    (fun x d H' p hb kf rv => r x d H' p hb (Fw.trans f0 (σ2 := σ) (e2 := e1) ⟨kf, fun a z => .inl z⟩).1 rv) fun x d σ2 H2 e2 p S2 f2 rv => re x d σ2 H2 e2 p S2 (f0.trans f2) rv
/-- a graph told as a tree -/
def rs : Nat → Gr → Dt → Dt
  | 0, _, .ad _ => .opq
  | n + 1, G, .ad b => match G b with
    | some (.lst ds) => .lst (ds.map (rs n G))
    | some (.dct kvs) => .dct (kvs.map fun kv => (kv.1, rs n G kv.2))
    | some (.ins C fs) => .ins C (fs.map fun kv => (kv.1, rs n G kv.2))
    | some (.dtn hs kvs) => .dtn hs (kvs.map fun kv => (kv.1, rs n G kv.2))
    | _ => .opq
  | _, _, d => d
theorem rs_nad {n : Nat} (h : ∀ b, d ≠ .ad b) : rs n G d = d := by
  cases d with
  | ad b => exact absurd rfl (h b)
  | _ => cases n <;> rfl
theorem map_at {α β : Type} {f : α → β} {l : List α} {n : Nat} {y : β} (h : (l.map f)[n]? = some y) : ∃ x, l[n]? = some x ∧ y = f x := by
  rw [List.getElem?_map] at h
  cases q : l[n]? with
  | none => rw [q] at h; cases h
  | some x => rw [q] at h; cases h; exact ⟨x, rfl, rfl⟩
theorem gr_rs {O' : Addr → Prop} (ob : ∀ b d, G b = some d → Oc so O H b d) (hO : ∀ y, O' y → O y ∧ G y = none) : ∀ (n : Nat) (x : V) (d : Dt), Rv so O H x d → Rv so O' H x (rs n G d)
  | 0, x, d, r => by
    cases d with
    | ad b => exact .opq
    | _ => exact r.mono fun y z => (hO y z).1
  | n + 1, x, d, r => by
    have ih := gr_rs ob hO n
    cases d with
    | ad b =>
      obtain rfl := ad_rv r
      show Rv so O' H (.ref b) (match G b with
        | some (.lst ds) => .lst (ds.map (rs n G))
        | some (.dct kvs) => .dct (kvs.map fun kv => (kv.1, rs n G kv.2))
        | some (.ins C fs) => .ins C (fs.map fun kv => (kv.1, rs n G kv.2))
        | some (.dtn hs kvs) => .dtn hs (kvs.map fun kv => (kv.1, rs n G kv.2))
        | _ => .opq)
      cases q : G b with
      | none => exact .opq
      | some u =>
        have nb : ¬ O' b := fun z => by have := (hO b z).2; rw [q] at this; cases this
        have o := ob b u q
        cases u with
        | lst ds =>
          obtain ⟨xs, h1, h2, h3, h4⟩ := o
          exact .lst nb h1 (by simp [h2]) (by simpa using h3) fun i x d e1 e2 => by
            obtain ⟨d0, w1, rfl⟩ := map_at e2
            exact ih x d0 (h4 i x d0 e1 w1)
        | dct ds =>
          obtain ⟨xs, h1, h2, h3, h4⟩ := o
          exact .dct nb (.inl h1) (by rw [h2, List.map_map]; rfl) (by simpa using h3) fun i k x k' d e1 e2 => by
            obtain ⟨d0, w1, w2⟩ := map_at e2
            cases w2
            exact ih x d0.2 (h4 i k x d0.1 d0.2 e1 w1)
        | ins C fs =>
          obtain ⟨dx, xs, h1, h2, h4⟩ := o
          exact .ins (dx := dx) nb h1 (by rw [h2, List.map_map]; rfl) fun i k x k' d e1 e2 => by
            obtain ⟨d0, w1, w2⟩ := map_at e2
            cases w2
            exact ih x d0.2 (h4 i k x d0.1 d0.2 e1 w1)
        | dtn hs ds =>
          obtain ⟨xs, h1, h2, h3, h5, h4⟩ := o
          exact .dtn nb h1 (by rw [h2, List.map_map]; rfl) (by simpa using h3) (fun i k b' x e1 => by
            refine (h5 i k b' x e1).mono fun y z => (hO y z).1) fun i k b' x k' d e1 e2 => by
            obtain ⟨d0, w1, w2⟩ := map_at e2
            cases w2
            exact ih x d0.2 (h4 i k b' x d0.1 d0.2 e1 w1)
        | _ => exact .opq
    | _ => exact r.mono fun y z => (hO y z).1
theorem set_id {α : Type} {l : List α} {n : Nat} {y : α} (h : l[n]? = some y) : l.set n y = l := by
  refine List.ext_getElem? fun m => ?_
  rw [List.getElem?_set]
  split
  · rename_i e
    split
    · rw [← e]; exact h.symm
    · rw [← e, List.getElem?_eq_none (by omega)]
  · rfl
theorem Sv.frzG (S : Sv g.K c H σ env) (h0 : GAt env i a G) (n : Nat) : Sv g.K c H σ (env.set i (.v (rs n G (.ad a)))) ∧ Fw c σ env H σ (env.set i (.v (rs n G (.ad a)))) H := by
  obtain ⟨s1, ra, ob⟩ := gr_at S h0
  have S1 := S.frz h0
  have av : ∀ y, Av c σ (env.set i (.v (gD a G))) y → Av c σ env y ∧ G y = none := fun y z => by
    refine ⟨Av.le le_set_v y z, ?_⟩
    cases q : G y with
    | none => rfl
    | some u =>
      have oy := S.oa h0 (gr_oa (gr_some q))
      rcases z with z | ⟨j, e, z1, z2⟩
      · exact absurd z oy.2.1
      · rcases Sl.get_set z1 with ⟨_, w⟩ | ⟨nj, w⟩
        · cases w
        · exact absurd (S.uniq j i e _ y w h0 z2 (gr_oa (gr_some q))) nj
  have S2 := S1.set_v (i := i) (gr_rs ob av n (.ref a) (.ad a) .ad)
  rw [set_id s1, List.set_set] at S2
  exact ⟨S2, Ko.refl, fun y z => .inl (Ow.le le_set_v y z)⟩
theorem wd_frzG (n : Nat) (h0 : GAt env i a G) (h : Wd g (env.set i (.v (rs n G (.ad a)))) t E) : Wd g env t E := wd_ghost (fun c σ H S => S.frzG h0 n) h
end
end Wv
/-! Graphs: objects made, comprehensions that change a graph. -/
namespace Wv
open PySem PySem.Spec PyProof.Rows L2 Evl
section
variable {g : Gx} {c : Cc} {H H1 H2 H3 H' : Hp} {σ : L2.St} {env e1 : List Sl} {ta tb te td ty tv te1 te2 : TE} {tu : TA} {tt : TT} {t : TS} {P : Dt → List Sl → Prop} {x : V} {d : Dt} {E : De} {a b p : Addr} {G G' : Gr} {i j : Nat} {so : Option Addr} {O : Addr → Prop} {K : PySem.W.Frag}
theorem single_some {y : Addr} (h : gput (fun _ => none) p d y ≠ none) : y = p := by
  by_cases e : y = p
  · exact e
  · rw [gput_ne e] at h; exact absurd rfl h
end
end Wv
/-! Dicts with nested keys over trees: get, comprehensions with two names. -/
namespace L2
open PySem PySem.Spec PyProof.Rows
theorem hu65 {k : Nat} {A : Around} (hr : Room k A) : A.units + 65 < cLine := by have := hr.un; omega
theorem u_inD {X : Cx} (K : PySem.W.Frag) (hu : X.A.units + 65 < cLine) (hK : X.K = K := by rfl) : OpR X (compareOp .In) (rInD K) := by
  subst hK
  exact op_inD hu
end L2
namespace Wv
open PySem PySem.Spec PyProof.Rows L2 Evl
section
variable {g : Gx} {c : Cc} {H H1 H2 H' : Hp} {σ : L2.St} {env e1 : List Sl} {ta tb td ty tx te tk tv : TE} {tt : TT} {P : Dt → List Sl → Prop} {E : De} {x : V} {d : Dt} {so : Option Addr} {O : Addr → Prop} {hs : Nk.K2 → Int} {P0 : Program} {w0 : World}
/-- x in a list of data -/
def fInD (neg : Bool) : Dt → Dt → (Dt → Prop) → Prop := fun d e k => ∃ ds, e = .lst ds ∧ shp d ∧ shp (.lst ds) ∧ k (.bl (if neg then !ds.any fun z => PyData.eqv (toP z) (toP d) else ds.any fun z => PyData.eqv (toP z) (toP d)))
theorem toPs_map : ∀ ds : List Dt, toPs ds = ds.map toP
  | [] => by unfold toPs; rfl
  | d :: ds => by unfold toPs; rw [List.map_cons, toPs_map ds]
theorem rop_inD {K : PySem.W.Frag} : Rop K (rInD K) (fInD false) := fun so O H x y d e hO r1 r2 PD ⟨ds, ee, h1, h2, p⟩ Q q => by
  subst ee
  have e1 : toP (.lst ds) = .list (toPs ds) := by unfold toP; rfl
  have z := rv_dp (K := K) r2 (can_of h2)
  rw [e1] at z
  refine ⟨toP d, toPs ds, rv_dp r1 (can_of h1), z, h1, by rw [← e1]; exact h2, q _ _ H p (Ex.refl H) ?_⟩
  rw [toPs_map, List.any_map]
  exact .bl _
end
end Wv
namespace Lw
open PySem PySem.Spec PyProof.Rows L2 Evl Wv TL
theorem par1_app {s : Nat} : ∀ {l acc a b : List Nat}, par [s] acc l = some (a, b) → ∃ p, a = acc ++ p ∧ l = p ++ s :: b
  | [], acc, a, b, h => by cases h
  | c :: r, acc, a, b, h => by
    cases hp : pre [s] (c :: r) with
    | true =>
      rw [par_hit hp] at h
      cases h
      have e : [c] = [s] := eq_of_beq hp
      cases e
      exact ⟨[], by simp, rfl⟩
    | false =>
      rw [par_miss hp] at h
      obtain ⟨p, e1, e2⟩ := par1_app h
      exact ⟨c :: p, by rw [e1, List.append_assoc]; rfl, by rw [e2]; rfl⟩
theorem RTd_ok (n : Nat) (l : List Nat) : RTd n (.str (mkS l)) = .non ∨ cg n (RTd n (.str (mkS l))) = true := by
  unfold RTd
  dsimp only
  rw [tl_mkS]
  cases q : RP n l with
  | none => exact .inl rfl
  | some x =>
    dsimp only
    by_cases h : x.2.isEmpty = true
    · rw [if_pos h]
      exact .inr (RP_cg n l x.1 x.2 q)
    · rw [if_neg h]
      exact .inl rfl
theorem RF_ok {r : List Nat} {d : Dt} (h : d ∈ RF r) : d = .non ∨ cg 24 d = true := by
  unfold RF at h
  obtain ⟨l, _, rfl⟩ := List.mem_map.mp h
  exact RTd_ok 24 l
theorem RF_dat (r : List Nat) : dats (RF r) = true ∧ deps (RF r) < 50 := by
  refine ⟨dats_of fun x hx => ?_, ?_⟩
  · rcases RF_ok hx with e | h
    · rw [e]; rfl
    · exact cg_dat h
  · have := deps_le (n := 27) (xs := RF r) fun x hx => by
      rcases RF_ok hx with e | h
      · rw [e]; unfold dep; omega
      · have := cg_dep h; omega
    omega
theorem any_non {xs : List Dt} (h : ∀ d ∈ xs, d = .non ∨ cg 24 d = true) : (xs.any fun z => PyData.eqv (toP z) (toP .non)) = xs.any isNon := by
  induction xs with
  | nil => rfl
  | cons x xs ih =>
    rw [List.any_cons, List.any_cons, ih fun d hd => h d (List.mem_cons_of_mem _ hd)]
    congr 1
    rcases h x (List.mem_cons_self ..) with e | h
    · rw [e]; rfl
    · obtain ⟨k, ek, ht⟩ := cg_inv h
      rcases ht with ⟨y, rfl, _⟩ | ⟨y, ys, rfl, _⟩ <;> rfl
section
variable {P : Program} {w : World} {K : PySem.W.Frag} {mg : Str → Option Value} {base : Heap}
theorem w_read_wire (T : Txt P K mg) : FnOk P w K mg base CX0 27 T.a_read_wire T.d_read_wire ["text"] (spW K false (R1 (rpPre 24) rwD)) := by
  refine T.F_read_wire.ok sc_read_wire (fun vs H Q E h => w_len 1 h fun _ _ _ ⟨_, e, _⟩ => by rw [e]; rfl) (fun cdv A outer s H vs Q E hr h => ⟨_, PSs.nox (pss_cons (ps_asg (pe_partT (pv 0) pe_str) (pg_tupK (K := K) (n := 3) rfl (pgs_cons (pg_name (i := 1) sc_read_wire.nd rfl (Or.inl rfl)) (pgs_cons (pg_name (i := 2) sc_read_wire.nd rfl (Or.inl rfl)) (pgs_cons (pg_name (i := 3) sc_read_wire.nd rfl (Or.inl rfl)) pgs_nil))))) (pss_cons (ps_if (PW.pt (pw_or (pt_not (pt_val (pe_call (ok_is_word T) (hr.mono (by omega)) rfl T.g_is_word T.F_is_word.kp T.b_is_word .nil pass0 (pa_cons (pv 1) pa_nil)))) (pw_or1 (PW.pt (pw_and (pt_cmpR (uNe K (hu64 hr)) (pv 2) pe_str (nomark _)) (pw_and1 (pt_cmpR (uEq K (hu64 hr)) (pv 3) pe_str (nomark _)))))))) (pss_one (ps_ret pe_non)) pss_nil) (pss_cons (ps_set (i := 4) sc_read_wire.nd rfl (Or.inl rfl) (pe_ifExp (pt_cmpR (uNe K (hu64 hr)) (pv 2) pe_str (nomark _)) (pe_lc (own := [("part", 5)]) (g := gName 5) rfl sc_read_wire.nd (pi_anyK (K := K) (pe_splitT (pv 3) pe_str)) (blkOk_by (N := ["text", "box", "sign", "rest", "firsts", "part"]) (sc := defScope s_read_wire) (by decide +kernel)) (fun _ _ _ _ _ => (pg_name (i := 5) sc_read_wire.nd rfl (Or.inl rfl))) (fun _ _ _ _ _ => pts_nil) (fun _ _ _ _ _ => (pe_call (w_read_term T) (hr.mono (by omega)) rfl T.g_read_term T.F_read_term.kp T.b_read_term .nil pass0 (pa_cons (pv 5) pa_nil)))) (pe_lst pa_nil))) (pss_one (ps_ret (pe_ifExp (pt_cmpR (u_inD K (hu65 hr)) pe_non (pv 4) (by with_unfolding_all rfl)) pe_non (pe_tup (pa_cons (pv 1) (pa_cons (pv 4) pa_nil))))))))), w_start h 6 rfl fun ds P xe ⟨d, e, ⟨z, ez, hz, hc⟩, p⟩ => ?_⟩)
  subst ez
  subst e
  refine ⟨Nat.le_of_ble_eq_true rfl, ?_⟩
  have p : P (rwD (.str z)) := p
  unfold rwD at p
  dsimp only at p
  unfold RW at p
  have hzl := len_tl z
  have ep := partition_par z (Str.ofString "@") (by rw [sgA]; simp)
  rw [sgA] at ep
  have okE : tl (Str.ofString "") = [] := by decide +kernel
  refine wd_seq (wd_asgT (et_part (et_var rfl ⟨z, rfl, et_str ⟨_, rfl, by decide +kernel, ?_⟩⟩)))
  rw [ep]
  cases q : par [64] [] (tl z) with
  | none =>
    rw [q] at p
    dsimp only at p ⊢
    rw [mkS_tl] at p
    refine ⟨hz, by decide +kernel, by decide +kernel, tv_tup (tgs_cons (tv_name (tgs_cons (tv_name (tgs_cons (tv_name (tgs_nil ?_)))))))⟩
    refine wd_seq (wd_if (eb_or (eb_not (eb_B (et_call0 nolk (ea_cons (et_var rfl (ea_nil ⟨_, rfl, rfl, n2 (fun hw => iteT (wd_ret (et_non ?_))) fun hw => ?_⟩))))))))
    · rw [if_neg (by rw [hw]; exact Bool.false_ne_true)] at p
      exact p
    · rw [if_pos hw] at p
      refine eb_and (eb_test (et_op rop_ne (et_var rfl (et_str (fne_s (Wv.bf (by decide +kernel) (wd_next ?_)))))))
      refine wd_seq (wd_asg (et_if (eb_test (et_op rop_ne (et_var rfl (et_str (fne_s (Wv.bf (by decide +kernel) (Ef.et (ef_lst (ea_nil ⟨Nat.zero_le _, ?_⟩)))))))))))
      refine wd_ret (et_if (eb_test (et_op rop_inD (et_non (et_var rfl ⟨[], rfl, shp_nonR, shp_of (by unfold dat; rfl) (by decide), Wv.bf rfl (et_tup (ea_cons (et_var rfl (ea_cons (et_var rfl (ea_nil ⟨Nat.le_of_ble_eq_true rfl, p⟩))))))⟩)))))
  | some x =>
    obtain ⟨b, r⟩ := x
    rw [q] at p
    dsimp only at p ⊢
    obtain ⟨pp, e1, e2⟩ := par1_app q
    have e1 : b = pp := e1
    subst e1
    have hl : (tl z).length = b.length + (r.length + 1) := by rw [e2, List.length_append, List.length_cons]
    have hcr : r.count 40 < 24 := by
      have : r.count 40 ≤ (tl z).count 40 := by
        rw [e2]
        exact ((List.sublist_cons_self 64 r).trans (List.sublist_append_right b (64 :: r))).count_le 40
      omega
    refine ⟨by rw [len_mkS]; omega, by decide +kernel, by rw [len_mkS]; omega, tv_tup (tgs_cons (tv_name (tgs_cons (tv_name (tgs_cons (tv_name (tgs_nil ?_)))))))⟩
    refine wd_seq (wd_if (eb_or (eb_not (eb_B (et_call0 nolk (ea_cons (et_var rfl (ea_nil ⟨_, rfl, rfl, n2 (fun hw => iteT (wd_ret (et_non ?_))) fun hw => ?_⟩))))))))
    · rw [if_neg (fun z => by rw [hw] at z; exact absurd z.1 Bool.false_ne_true)] at p
      exact p
    · refine eb_and (eb_test (et_op rop_ne (et_var rfl (et_str (fne_s (Wv.bt (by decide +kernel) (eb_test (et_op rop_eq (et_var rfl (et_str (feq_s (Wv.b2 (fun h => wd_ret (et_non ?_)) fun h => wd_next ?_))))))))))))
      · have h := (mkS_nil r).mp (of_decide_eq_true h)
        rw [if_neg (fun z => by rw [h] at z; exact absurd z.2.1 (by decide))] at p
        exact p
      · have h : r.isEmpty = false := by
          cases he : r.isEmpty with
          | false => rfl
          | true => exact absurd ((mkS_nil r).mpr he) (of_decide_eq_false h)
        have hk : (Str.ofString ";").cps.all (· < 256) = true := by decide +kernel
        have es := split1_eq (z := mkS r) sgS hk
        rw [tl_mkS] at es
        refine wd_seq (wd_asg (et_if (eb_test (et_op rop_ne (et_var rfl (et_str (fne_s (Wv.bt (by decide +kernel) (Ef.et (ef_mapY (RTd 24) (ei_seq (Ef.et (ef_split (et_var rfl ⟨_, rfl, et_str ⟨_, rfl, by decide +kernel, ?_⟩⟩))))))))))))))
        rw [es]
        refine ⟨?_, ?_, itsL ⟨nown_no rfl, ?_, ?_⟩⟩
        · rw [List.length_map]
          have := spl1_cl 59 r []
          simp only [List.length_nil, Zz] at this hz ⊢
          omega
        · intro u hu
          obtain ⟨l, hl2, rfl⟩ := List.mem_map.mp hu
          have := spl1_mem hl2
          rw [len_mkS]
          simp only [List.length_nil] at this
          omega
        · intro d hd
          obtain ⟨u, hu, rfl⟩ := List.mem_map.mp hd
          obtain ⟨l, hl2, rfl⟩ := List.mem_map.mp hu
          have h1 := spl1_mem hl2
          have h2 := spl1_cnt 59 40 r [] l hl2
          simp only [List.length_nil, List.count_nil] at h1 h2
          exact et_call0 nolk (ea_cons (et_var rfl (ea_nil ⟨_, rfl, ⟨mkS l, rfl, by rw [len_mkS]; omega, by rw [tl_mkS]; omega⟩, rfl, rfl⟩)))
        · have eF : ((((spl [59] 0 [] r).map mkS).map Dt.str).map (RTd 24)) = RF r := by
            unfold RF
            rw [List.map_map, List.map_map]
            rfl
          rw [eF]
          have hD := RF_dat r
          refine wd_ret (et_if (eb_test (et_op rop_inD (et_non (et_var rfl ⟨RF r, rfl, shp_nonR, shp_of (by unfold dat; exact hD.1) (by unfold dep; have := hD.2; omega), ?_⟩)))))
          have ea := any_non (xs := RF r) fun d hd => RF_ok hd
          show isB (.bl (if false = true then _ else (RF r).any fun z => PyData.eqv (toP z) (toP .non))) _
          rw [if_neg Bool.false_ne_true, ea]
          refine Wv.b2 (fun hn => et_non ?_) fun hn => et_tup (ea_cons (et_var rfl (ea_cons (et_var rfl (ea_nil ⟨Nat.le_of_ble_eq_true rfl, ?_⟩)))))
          · rw [if_neg (fun z => by rw [hn] at z; exact absurd z.2.2 (by decide))] at p
            exact p
          · rw [if_pos ⟨hw, h, hn⟩] at p
            exact p
end
end Lw
/-! > of texts. -/
namespace L2
open PySem PySem.Spec PyProof.Rows
end L2
namespace Wv
open PySem PySem.Spec PyProof.Rows L2 Evl
end Wv
/-! >= of texts; max of a dict's keys that are texts. -/
namespace L2
open PySem PySem.Spec PyProof.Rows
def rGeS : R2 := fun x y H Q => ∃ i j, x = .str i ∧ y = .str j ∧ Q (.bl (!decide (i.cps.toList < j.cps.toList))) H
theorem op_geS {X : Cx} : OpR X (compareOp .GtE) rGeS := op_ge_str
theorem lt_nl_irr (l : List Nat) : ¬ l < l := List.lt_irrefl l
theorem lt_nl_tr {a b c : List Nat} (h1 : a < b) (h2 : b < c) : a < c := List.lt_trans h1 h2
theorem best_str (val : Nat → List Nat) : ∀ n, argBest (fun i j => decide (val j < val i)) n ≤ n ∧ ∀ j, j ≤ n → ¬ val (argBest (fun i j => decide (val j < val i)) n) < val j
  | 0 => ⟨Nat.le_refl _, fun j hj => by
    obtain rfl : j = 0 := by omega
    exact lt_nl_irr _⟩
  | n + 1 => by
    obtain ⟨h1, h2⟩ := best_str val n
    unfold argBest
    by_cases c : val (argBest (fun i j => decide (val j < val i)) n) < val (n + 1)
    · rw [if_pos (decide_eq_true c)]
      refine ⟨Nat.le_refl _, fun j hj => ?_⟩
      rcases Nat.lt_or_ge n j with z | z
      · obtain rfl : j = n + 1 := by omega
        exact lt_nl_irr _
      · exact fun q => h2 j z (lt_nl_tr c q)
    · rw [if_neg (by rw [decide_eq_false c]; exact Bool.false_ne_true)]
      refine ⟨by omega, fun j hj => ?_⟩
      rcases Nat.lt_or_ge n j with z | z
      · obtain rfl : j = n + 1 := by omega
        exact c
      · exact h2 j z
def rMaxS : List V → Hp → VK → Prop := fun xs H Q => ∃ (a : Addr) (kvs : List (Key × V)) (ks : List Str), xs = [.ref a] ∧ Rd H a (.dK kvs) ∧ kvs.map (·.1) = ks.map Sum.inr ∧ 0 < ks.length ∧
  ∀ m, m ∈ ks → (∀ y, y ∈ ks → ¬ m.cps.toList < y.cps.toList) → Q (.str m) H
theorem cr_maxS {X : Cx} (hcalm : X.calm = true) : CallR X (.builtin "max") rMaxS := by
  intro pins s σ H xs us Q I r q
  obtain ⟨a, kvs, ks, ex, hd, hks, hne, q⟩ := q
  subst ex
  obtain ⟨u, eu, rx⟩ := vals1 r
  subst eu
  cases rx
  obtain ⟨z, lo, vs, rel, dd⟩ := dk_rd I.hok hd
  obtain ⟨ep, hat⟩ := dd.dictAt
  have hkeys : vs.map (·.1) = ks.map Sum.inr := rel.keys.symm.trans hks
  have hl : vs.length = ks.length := by
    have e := congrArg List.length hkeys
    rw [List.length_map, List.length_map] at e
    exact e
  have hlt : a < s.heap.objs.size := hat.lt_size
  have hn : a ≠ s.heap.objs.size := Nat.ne_of_lt hlt
  refine call_max_walk ?_
  refine wpAny_pyIter_dict lo hat ?_
  refine ⟨s.heap.objs.size, [s.heap.objs.size, a], [s.heap.objs.size], vs.length, fun i v => ∃ t, v = .str (ks.getD i Str.empty) t, _, fun i j => decide ((ks.getD j Str.empty).cps.toList < (ks.getD i Str.empty).cps.toList), rfl,
    (Walks.dictKeys (knd := mixKind X.prog X.w) (show X.A.in1.handled = none from I.ok.hd hcalm) _ a hn vs ep).weaken ?_, ⟨⟨_, Heap.get?_push_size _ rfl, rfl, rfl⟩, hat.push _⟩, fun b hb => ?_, by omega, ?_, fun v h' tk hv hk => ?_⟩
  · rintro i v ⟨k, x, hx, hkv⟩
    have e3 : (vs.map (·.1))[i]? = some k := by rw [List.getElem?_map, hx]; rfl
    rw [hkeys, List.getElem?_map] at e3
    cases e4 : ks[i]? with
    | none => rw [e4] at e3; cases e3
    | some y =>
      rw [e4] at e3
      have e5 : Sum.inr y = k := Option.some.inj e3
      subst e5
      obtain ⟨t, rfl⟩ := (show RelV (.str y) v from keyIs_rel (k := .inr y) hkv)
      exact ⟨t, by rw [List.getD_eq_getElem?_getD, e4]; rfl⟩
  · show b < (s.heap.push _).objs.size
    rw [Heap.size_push]
    rcases List.mem_cons.mp hb with z | z
    · rw [z]; exact Nat.lt_succ_self _
    · rw [List.mem_singleton.mp z]; exact Nat.lt_succ_of_lt hlt
  · intro i j vi vj s' Q' E' hi hj hQ
    obtain ⟨t, rfl⟩ := hi
    obtain ⟨t', rfl⟩ := hj
    exact PySem.P.gt_str hQ
  · obtain ⟨t, rfl⟩ := hv
    have B := best_str (fun i => (ks.getD i Str.empty).cps.toList) (vs.length - 1)
    refine ⟨.str _, H, I.kept (t' := tk) (fun b o e => hk b o (fun hb => ?_) (Heap.get?_push_of_some _ e)), ⟨t, rfl⟩, q _ ?_ fun y hy => ?_⟩
    · rw [List.mem_singleton.mp hb] at e
      exact absurd (Heap.lt_size e) (Nat.lt_irrefl _)
    · rw [List.getD_eq_getElem?_getD]
      have : argBest (fun i j => decide ((ks.getD j Str.empty).cps.toList < (ks.getD i Str.empty).cps.toList)) (vs.length - 1) < ks.length := by have := B.1; omega
      rw [List.getElem?_eq_getElem this]
      exact List.getElem_mem this
    · obtain ⟨j, hj⟩ := List.getElem?_of_mem hy
      have hj2 : j < ks.length := (List.getElem?_eq_some_iff.mp hj).1
      have := B.2 j (by omega)
      rw [show (ks.getD j Str.empty) = y by rw [List.getD_eq_getElem?_getD, hj]; rfl] at this
      exact this
end L2
namespace Wv
open PySem PySem.Spec PyProof.Rows L2 Evl
variable {K : PySem.W.Frag}
def fGeS : Dt → Dt → (Dt → Prop) → Prop
  | .str i, .str j, k => k (.bl (!decide (i.cps.toList < j.cps.toList)))
  | _, _, _ => False
theorem rop_geS : Rop K rGeS fGeS := fun so O H x y d e hO r1 r2 PD f Q q => by
  cases d with
  | str i =>
    cases e with
    | str j =>
      obtain ⟨rfl, _⟩ := str_rv r1
      obtain ⟨rfl, _⟩ := str_rv r2
      exact ⟨i, j, rfl, rfl, q _ _ H f (Ex.refl H) (.bl _)⟩
    | _ => exact f.elim
  | _ => exact f.elim
def fMaxS : List Dt → (Dt → Prop) → Prop := fun ds k => ∃ (kvs : List (Key × Dt)) (ks : List Str), ds = [.dct kvs] ∧ kvs.map (·.1) = ks.map Sum.inr ∧ 0 < ks.length ∧ (∀ z ∈ ks, z.length ≤ Zz) ∧ ∀ m, m ∈ ks → (∀ y, y ∈ ks → ¬ m.cps.toList < y.cps.toList) → k (.str m)
theorem rcl_maxS : Rcl K rMaxS fMaxS := fun so O H xs ds hO r PD ⟨kvs, ks, e, hk, h0, hz, p⟩ Q q => by
  subst e
  obtain ⟨x, rfl, r1⟩ := one_rv r
  obtain ⟨a, vs, rfl, _, h, tb, _⟩ := dct_rv r1
  exact ⟨a, vs, ks, rfl, h, tb.1.trans hk, h0, fun m h1 h2 => q _ _ H (p m h1 h2) (Ex.refl H) (.str (hz m h1))⟩
end Wv
/-! An own list or dict as a graph of one place; a graph looked at as a tree. -/
namespace Wv
open PySem PySem.Spec PyProof.Rows L2 Evl
section
variable {g : Gx} {c : Cc} {H H1 : Hp} {σ : L2.St} {env : List Sl} {te : TE} {tt : TT} {t : TS} {d : Dt} {i : Nat} {a : Addr} {G : Gr} {E : De}
/-- an own list or dict is a graph -/
theorem Sv.toG (S : Sv g.K c H σ env) (h : env[i]? = some (.own d)) (hd : ∀ r t, d ≠ .ob r t) : ∃ a, Sv g.K c H σ (env.set i (.own (gD a (gput (fun _ => none) a d)))) ∧ Fw c σ env H σ (env.set i (.own (gD a (gput (fun _ => none) a d)))) H := by
  obtain ⟨a, h1, hB, hO, o⟩ := S.own i d h
  have o : Ol c.so (Av c σ env) H a d := o.cs id fun r t e _ _ => absurd e (hd r t)
  have oa : ∀ y, Oa σ i (gD a (gput (fun _ => none) a d)) y → Oa σ i d y := fun y z => by
    rcases z with z | z
    · exact .inl z
    · rw [single_some z]; exact .inl h1
  have back : ∀ {n e y}, (env.set i (.own (gD a (gput (fun _ => none) a d))))[n]? = some (Sl.own e) → Oa σ n e y → ∃ e', env[n]? = some (Sl.own e') ∧ Oa σ n e' y := fun {n e y} z w => by
    rcases Sl.get_set z with ⟨en, q⟩ | ⟨_, q⟩
    · cases q
      subst en
      exact ⟨d, h, oa y w⟩
    · exact ⟨e, q, w⟩
  have ows : ∀ y, Ow σ (env.set i (.own (gD a (gput (fun _ => none) a d)))) y → Ow σ env y := fun y ⟨n, e, z1, z2⟩ => by
    obtain ⟨e', w1, w2⟩ := back z1 z2
    exact ⟨n, e', w1, w2⟩
  have avs : ∀ y, Av c σ (env.set i (.own (gD a (gput (fun _ => none) a d)))) y → Av c σ env y := fun y z => z.imp id (ows y)
  refine ⟨a, ⟨S.toHb, by rw [S.len, List.length_set], fun n m e f y z1 z2 z3 z4 => ?_, fun n e y z1 z2 => ?_, fun n r z => ?_, fun n e z => ?_, fun n e z => ?_⟩, Ko.refl, fun y z => .inl (ows y z)⟩
  · obtain ⟨e', w1, w2⟩ := back z1 z3
    obtain ⟨f', w3, w4⟩ := back z2 z4
    exact S.uniq n m e' f' y w1 w3 w2 w4
  · rcases Sl.get_set z1 with ⟨en, q⟩ | ⟨_, q⟩
    · cases q
      rw [single_some z2]
      exact ⟨hB, hO⟩
    · exact S.reg n e y q z2
  · rcases Sl.get_set z with ⟨_, q⟩ | ⟨_, q⟩
    · cases q
    · exact S.fzs n r q
  · rcases Sl.get_set z with ⟨_, q⟩ | ⟨_, q⟩
    · cases q
    · obtain ⟨y, k1, k2⟩ := S.tree n e q
      exact ⟨y, k1, k2.mono avs⟩
  · rcases Sl.get_set z with ⟨en, q⟩ | ⟨_, q⟩
    · cases q
      subst en
      refine ⟨a, h1, hB, hO, gr_oo (by rw [gput_same]; exact fun w => nomatch w) fun y e z => ?_⟩
      have : y = a := single_some (gr_some z)
      subst this
      rw [gput_same] at z
      cases z
      exact (o.mono avs).oc
    · obtain ⟨y, k1, k2, k3, k4⟩ := S.own n e q
      exact ⟨y, k1, k2, k3, k4.mono avs⟩
theorem wd_toG (h0 : env[i]? = some (.own d)) (hd : ∀ r t, d ≠ .ob r t) (h : ∀ a, Wd g (env.set i (.own (gD a (gput (fun _ => none) a d)))) t E) : Wd g env t E := fun c L σ H S D n b k r re => by
  obtain ⟨a, S2, f0⟩ := S.toG h0 hd
  exact h a c L σ H S2 D (fun σ2 H2 e2 S2 f2 z => n σ2 H2 e2 S2 (f0.trans f2) z) (fun σ2 H2 e2 S2 f2 z => b σ2 H2 e2 S2 (f0.trans f2) z) (fun σ2 H2 e2 S2 f2 z => k σ2 H2 e2 S2 (f0.trans f2) z)
    (fun x d' H' p hb kf rv => r x d' H' p hb (Fw.trans f0 (σ2 := σ) (e2 := env.set i (.own (gD a (gput (fun _ => none) a d)))) ⟨kf, fun a z => .inl z⟩).1 rv) fun x d σ2 H2 e2 p S2 f2 rv => re x d σ2 H2 e2 p S2 (f0.trans f2) rv
end
end Wv
/-! l[k] = e, l a list of one's own. -/
namespace Wv
open PySem PySem.Spec PyProof.Rows L2 Evl
section
variable {g : Gx} {env : List Sl} {te ti : TE} {E : De}
end
end Wv
/-! Defs one of whose parameters, at any place, stands in a graph of the caller's; places that leave the graph for a slot. -/
namespace Wv
open PySem PySem.Spec PyProof.Rows L2 Evl
section
variable {g : Gx} {c : Cc} {H H1 H2 H' : Hp} {σ : L2.St} {env e1 : List Sl} {ta tb te td ty tv : TE} {tu : TA} {t : TS} {P : Dt → List Sl → Prop} {x : V} {d : Dt} {E : De} {a b p : Addr} {G G' : Gr} {i j : Nat} {so : Option Addr} {O : Addr → Prop} {K : PySem.W.Frag}
theorem st_at {N : List Str} {vs : List V} {j : Nat} {y : V} (h : vs[j]? = some y) : (L2.start N vs)[j]? = some (some y) := by
  have hl : j < vs.length := (List.getElem?_eq_some_iff.mp h).1
  unfold L2.start
  rw [List.getElem?_append_left (by simpa using hl), List.getElem?_map, h]
  rfl
noncomputable abbrev gEnvK (k : Nat) (b : Addr) (G : Gr) (ds : List Dt) (n : Nat) : List Sl := (ds.map Sl.v ++ List.replicate (n - ds.length) Sl.no).set k (.own (gD b G))
/-- a promise of a def whose parameter number k stands in a graph of the caller's -/
def spK (K : PySem.W.Frag) (lk : Bool) (k : Nat) (M : GM) : Sp := fun vs H Q E => ∃ (c : Cc) (b : Addr) (G : Gr) (ds : List Dt) (P : Dt → Gr → Prop) (xe : Addr → List (Str × Dt) → Prop),
  c.lk = lk ∧ vs.length = ds.length ∧ M b G ds P xe ∧ Lk ⟨K, E, xe, lk, []⟩ c ∧ ∀ (N : List Str) (n : Nat), N.length = n → ds.length ≤ n → Sv K c H (L2.start N vs) (gEnvK k b G ds n) ∧
  ∀ x d H' σ' env' i a G', Sv K c H' σ' env' → Fw c (L2.start N vs) (gEnvK k b G ds n) H σ' env' H' → GAt env' i a G' → Rv c.so (Av c σ' env') H' x d → P d G' → Q x H'
theorem k_len {M : GM} {lk : Bool} {k : Nat} {vs : List V} {Q : VK} {E : XK} (n : Nat) (h : spK K lk k M vs H Q E) (hM : ∀ b G ds P xe, M b G ds P xe → ds.length = n) : vs.length = n := by
  obtain ⟨c, b, G, ds, P, xe, _, hl, hm, _⟩ := h
  rw [hl, hM _ _ _ _ _ hm]
theorem k_start {M : GM} {lk : Bool} {k : Nat} {N : List Str} {vs : List V} {Q : VK} {E : XK} {t : TS} (h : spK K lk k M vs H Q E) (n : Nat) (hN : N.length = n)
    (hw : ∀ b G ds P xe, M b G ds P xe → ds.length ≤ n ∧ Wd ⟨K, E, xe, lk, []⟩ (gEnvK k b G ds n) t { nx := fun e => ∃ i a G', GAt e i a G' ∧ P .non G', rt := fun _ => False, re := fun d e => ∃ i a G', GAt e i a G' ∧ P d G' }) : t { nx := fun _ H' => Q .non H', rt := Q } (L2.start N vs) H := by
  obtain ⟨c, b, G, ds, P, xe, hk, hl, hM, L, hs⟩ := h
  obtain ⟨hle, hw⟩ := hw b G ds P xe hM
  obtain ⟨S, k⟩ := hs N n hN hle
  exact hw c L _ H S _ (fun σ' H' e' S' f ⟨i, a, G', z, p⟩ => k .non .non H' σ' e' i a G' S' f z .non p) (fun _ _ _ _ _ z => z.elim) (fun _ _ _ _ _ z => z.elim) (fun _ _ _ z => z.elim) fun x d σ' H' e' ⟨i, a, G', z, p⟩ S' f r => k x d H' σ' e' i a G' S' f z r p
theorem callK {M : GM} {lk : Bool} {k : Nat} {vs : List V} {ds : List Dt} {Q : VK} {P' : Dt → Gr → Prop} {xe : Addr → List (Str × Dt) → Prop} {X : XK} (S : Sv g.K c H σ env) (hk : lkle lk c.lk) (h0 : GAt env i a G) (hb : G b ≠ none) (rs : Rvs c.so (Av c σ env) H vs ds) (hkd : ds[k]? = some (.ad b))
    (L : Lk ⟨g.K, X, xe, lk, []⟩ (c.msk σ env H G lk)) (hM : M b G ds P' xe) (hr : ∀ d G', P' d G' → G' a ≠ none)
    (q : ∀ x d G' H', P' d G' → Sv g.K c H' σ (env.set i (.own (gD a G'))) → Fw c σ env H σ (env.set i (.own (gD a G'))) H' → Rv c.so (Av c σ (env.set i (.own (gD a G')))) H' x d → Q x H') : spK g.K lk k M vs H Q X := by
  obtain ⟨s1, ra, ob⟩ := gr_at S h0
  refine ⟨c.msk σ env H G lk, b, G, ds, P', xe, rfl, rs.1, hM, L, fun N nn hN hle => ?_⟩
  have base : ∀ {j : Nat} {s : Sl}, (ds.map Sl.v ++ List.replicate (nn - ds.length) Sl.no)[j]? = some s → (∃ d, s = .v d ∧ ds[j]? = some d) ∨ s = .no := fun {j s} z => by
    rw [List.getElem?_append] at z
    split at z
    · rw [List.getElem?_map] at z
      cases e : ds[j]? with
      | none => rw [e] at z; cases z
      | some y => rw [e] at z; cases z; exact .inl ⟨y, rfl, rfl⟩
    · rw [List.getElem?_replicate] at z
      split at z
      · cases z; exact .inr rfl
      · cases z
  have own : ∀ {j : Nat} {d : Dt}, (gEnvK k b G ds nn)[j]? = some (Sl.own d) → j = k ∧ d = gD b G := fun {j d} z => by
    rcases Sl.get_set z with ⟨e, w⟩ | ⟨_, w⟩
    · cases w; exact ⟨e, rfl⟩
    · rcases base w with ⟨_, w, _⟩ | w <;> cases w
  have hkl : k < vs.length := by rw [rs.1]; exact (List.getElem?_eq_some_iff.mp hkd).1
  have s0 : (L2.start N vs)[k]? = some (some (V.ref b)) := by
    rw [st_at (List.getElem?_eq_getElem hkl)]
    rw [ad_rv (rs.2 k _ _ (List.getElem?_eq_getElem hkl) hkd)]
  have og : ∀ y, c.O y → G y = none := fun y z => by
    cases q : G y with
    | none => rfl
    | some u => exact absurd z (S.oa h0 (gr_oa (gr_some q))).2.1
  have owc : ∀ y, Ow (L2.start N vs) (gEnvK k b G ds nn) y → G y ≠ none := fun y ⟨j, d, z1, z2⟩ => by
    obtain ⟨rfl, rfl⟩ := own z1
    rcases z2 with z | z
    · rw [s0] at z; cases z; exact hb
    · exact z
  have avs : ∀ y, Av (c.msk σ env H G lk) (L2.start N vs) (gEnvK k b G ds nn) y → Av c σ env y := fun y z => by
    rcases z with z | z
    · exact z.1
    · exact gr_av h0 (owc y z)
  refine ⟨⟨⟨⟨fun x o _ z => .inl (msk_s z).2, fun x z => ?_⟩, id, fun x z => ⟨⟨.inl (S.sO x z).1, og x (S.sO x z).1⟩, fun s z' => ⟨.inl ((S.sO x z).2 s z'), og _ ((S.sO x z).2 s z')⟩⟩, fun x z => S.lk_av x z.1, S.stt⟩, ?_, fun j k d1 d2 y z1 z2 _ _ => (own z1).1.trans (own z2).1.symm, fun j d y z hy => ?_, fun j r z => ?_, fun j d z => ?_, fun j d z => ?_⟩, fun x d H' σ' env' i' a' G' S' F e' rv pd => ?_⟩
  · cases w : Wv.msk G H x with
    | none => exact absurd w z
    | some o => rw [(msk_s w).2]; exact fun w => nomatch w
  · have := rs.1
    unfold L2.start
    simp
    omega
  · obtain ⟨rfl, rfl⟩ := own z
    exact ⟨msk_g hy, fun q => hy q.2⟩
  · rcases Sl.get_set z with ⟨_, w⟩ | ⟨_, w⟩
    · cases w
    · rcases base w with ⟨_, w, _⟩ | w <;> cases w
  · rcases Sl.get_set z with ⟨_, w⟩ | ⟨_, w⟩
    · cases w
    · rcases base w with ⟨d', w, hj⟩ | w
      · cases w
        have hl : j < vs.length := by rw [rs.1]; exact (List.getElem?_eq_some_iff.mp hj).1
        exact ⟨vs[j], st_at (List.getElem?_eq_getElem hl), (rs.2 j _ _ (List.getElem?_eq_getElem hl) hj).mono avs⟩
      · cases w
  · obtain ⟨rfl, rfl⟩ := own z
    exact ⟨b, s0, msk_g hb, fun q => hb q.2, gr_oo hb fun y e z => (ob y e z).mono avs⟩
  · obtain ⟨s1', ra', ob'⟩ := gr_at S' e'
    have b1 : Ko (fun y => Chg c.so c.cc y) (fun y => lk = false ∨ (Av c σ env y ∧ G y = none)) (Wv.msk G H) H' := S'.base
    have kb : Ko (fun y => Chg c.so c.cc y ∨ G y ≠ none) (fun y => lk = false ∨ Av c σ env y) H H' := ⟨fun y o nn z => by
      have gn : G y = none := by
        cases q : G y with
        | none => rfl
        | some u => exact absurd (.inr (gr_some q)) nn
      exact (b1.1 y o (fun q => nn (.inl q)) (by rw [msk_n gn]; exact z)).imp id fun ⟨w1, w2⟩ => ⟨fun q => w1 (q.imp id fun q => ⟨q, gn⟩), w2⟩, fun y z => F.1.2 y z⟩
    have hroot := hr d G' pd
    have hn : ∀ y, G' y ≠ none → G y ≠ none ∨ H y = none := fun y z => (F.2 y ⟨i', _, e', .inr z⟩).imp (owc y) id
    have av2 : ∀ y, Av c σ (env.set i (.own (gD a G'))) y → Av (c.msk σ env H G lk) σ' env' y := fun y z => by
      rcases z with z | ⟨j, f, z1, z2⟩
      · exact .inl ⟨.inl z, og y z⟩
      · rcases Sl.get_set z1 with ⟨ej, w⟩ | ⟨nj, w⟩
        · cases w
          subst ej
          refine .inr ⟨i', _, e', .inr ?_⟩
          rcases z2 with z2 | z2
          · rw [s1] at z2; cases z2; exact hroot
          · exact z2
        · refine .inl ⟨.inr ⟨j, f, w, z2⟩, ?_⟩
          cases q : G y with
          | none => rfl
          | some u => exact absurd (S.uniq j i f _ y w h0 z2 (gr_oa (gr_some q))) nj
    obtain ⟨T, FF⟩ := S.chG (lk := lk) (G' := G') (H' := H') hk h0 hroot hn kb S'.stt fun y e z => (ob' y e z).mono av2
    exact q x d G' H' pd T FF (rv.mono av2)
theorem et_callK0 {M : GM} {lk : Bool} {k : Nat} {X : XK} (hlk : lkle lk g.lk) (h : Ea g env tu fun ds e1 => ∃ b i a G, ds[k]? = some (.ad b) ∧ GAt e1 i a G ∧ G b ≠ none ∧ M b G ds (fun t G' => Kp G G' ∧ P t (e1.set i (.own (gD a G')))) fun _ _ => False) : Et g env (tCall (spK g.K lk k M) [] X tu) P := fun c L σ H S Q q =>
  h c L σ H S _ fun vs ds e1 H2 ⟨b, i, a, G, ed, h0, hb, hM⟩ S2 l2 k2 r2 => by
    have hk : lkle lk c.lk := by rw [← L.1]; exact hlk
    rw [List.append_nil]
    refine callK S2 hk h0 hb r2 ed Lk.none hM (fun d G' z => z.1.on (gr_at S2 h0).2.1) fun x d G' H' ⟨kp, pd⟩ S3 F3 r3 => ?_
    have le3 : Le (e1.set i (.own (gD a G'))) e1 := le_put (fun y => (kp y).mp) h0
    exact q x d _ H' pd S3 (l2.trans le3) (k2.trans (F3.1.le l2)) r3
/-- another tree of the same value -/
theorem Sv.retree {d0 : Dt} (S : Sv K c H σ env) (hj : env[j]? = some (.v d0)) (hd : ∀ x, σ[j]? = some (some x) → Rv c.so (Av c σ env) H x d) : Sv K c H σ (env.set j (.v d)) := by
  have ow : ∀ {n : Nat} {f : Dt}, (env.set j (.v d))[n]? = some (Sl.own f) → env[n]? = some (Sl.own f) := fun {n f} z => by
    rcases Sl.get_set z with ⟨_, w⟩ | ⟨_, w⟩
    · cases w
    · exact w
  have avs : ∀ y, Av c σ (env.set j (.v d)) y → Av c σ env y := fun y z => z.imp id fun ⟨n, f, z1, z2⟩ => ⟨n, f, ow z1, z2⟩
  refine ⟨S.toHb, by rw [S.len, List.length_set], fun n m f h y z1 z2 => S.uniq n m f h y (ow z1) (ow z2), fun n f y z => S.reg n f y (ow z), fun n r z => ?_, fun n f z => ?_, fun n f z => ?_⟩
  · rcases Sl.get_set z with ⟨_, w⟩ | ⟨_, w⟩
    · cases w
    · exact S.fzs n r w
  · rcases Sl.get_set z with ⟨e, w⟩ | ⟨_, w⟩
    · cases w
      subst e
      obtain ⟨x, z1, z2⟩ := S.tree _ _ hj
      exact ⟨x, z1, (hd x z1).mono avs⟩
    · obtain ⟨x, z1, z2⟩ := S.tree n f w
      exact ⟨x, z1, z2.mono avs⟩
  · obtain ⟨x, z1, z2, z3, z4⟩ := S.own n f (ow z)
    exact ⟨x, z1, z2, z3, z4.mono avs⟩
/-- a place leaves the graph: the slot that points to it holds its tree -/
theorem wd_leave (h0 : GAt env i a G) (hj : env[j]? = some (.v (.ad b))) (hb : G b = some d) (hba : b ≠ a) (r : G' a ≠ none) (hG : ∀ q e, G' q = some e → q ≠ b ∧ G q = some e) (h : Wd g ((env.set i (.own (gD a G'))).set j (.v d)) t E) : Wd g env t E := by
  have hij : i ≠ j := fun e => by subst e; rw [h0] at hj; cases hj
  refine wd_ghost (e1 := (env.set i (.own (gD a G'))).set j (.v d)) (fun c σ H S => ?_) h
  have gs : ∀ y, G' y ≠ none → G y ≠ none := fun y z => by
    cases q : G' y with
    | none => exact absurd q z
    | some e => exact gr_some (hG y e q).2
  have gb : G' b = none := by
    cases q : G' b with
    | none => rfl
    | some e => exact absurd rfl (hG b e q).1
  obtain ⟨S2, F2⟩ := S.gfz h0 hb hba r fun q e z => ⟨(hG q e z).1, e, (hG q e z).2, .inl rfl⟩
  obtain ⟨s1, ra, ob⟩ := gr_at S h0
  have avs : ∀ y, Av c σ (env.set i (.own (gD a G'))) y → Av c σ env y := Av.le (le_put gs h0)
  have nb : ¬ Av c σ (env.set i (.own (gD a G'))) b := fun z => by
    rcases z with z | ⟨m, f, z1, z2⟩
    · exact (S.oa h0 (gr_oa (gr_some hb))).2.1 z
    · rcases Sl.get_set z1 with ⟨ej, w⟩ | ⟨nj, w⟩
      · cases w
        subst ej
        rcases z2 with z2 | z2
        · rw [s1] at z2; cases z2; exact hba rfl
        · exact z2 gb
      · exact nj (S.uniq m i f _ b w h0 z2 (gr_oa (gr_some hb)))
  have hj2 : (env.set i (.own (gD a G')))[j]? = some (.v (.ad b)) := by rw [List.getElem?_set_ne hij]; exact hj
  obtain ⟨x, hx, rx⟩ := S.tree j _ hj
  obtain rfl := ad_rv rx
  have S3 := S2.retree (d := d) hj2 fun y hy => by
    rw [hx] at hy
    cases hy
    exact ((ob b _ hb).mono avs).rv nb
  refine ⟨S3, F2.1, fun y z => F2.2 y ?_⟩
  obtain ⟨n, f, z1, z2⟩ := z
  rcases Sl.get_set z1 with ⟨_, w⟩ | ⟨_, w⟩
  · cases w
  · exact ⟨n, f, w, z2⟩
end
end Wv
namespace Lw
open PySem PySem.Spec PyProof.Rows L2 Evl Wv TL
/-- some key is not before a text -/
def gek (b : Str) (X : List (Key × Dt)) : Bool := X.any fun kv => match kv.1 with
  | .inr k => !decide (k.cps.toList < b.cps.toList)
  | _ => false
abbrev outS : Str := Str.ofString "out"
abbrev inS : Str := Str.ofString "in"
abbrev opS : Str := Str.ofString "op"
/-- the wires of a line -/
def tlW (a c : Str) (r : List Str) : List Dt := (if a = outS then c :: r else r).map fun u => rwD (.str u)
/-- a line is read: the tables behind it -/
def TLn (ws : List Str) (X Y : List (Key × Dt)) : Option (List (Key × Dt) × List (Key × Dt)) := match ws with
  | a :: b :: c :: r =>
    if wordD (.str b) = false then none else
    if gek b (if a = outS then Y else X) = true ∨ (a ≠ outS ∧ Y.isEmpty = false) then none else
    if a = inS ∧ r.isEmpty = true ∧ wordD (.str c) = true then some (dpt X (.inr b) (.tup [.str inS, .str c]), Y) else
    if (tlW a c r).any isNon = true then none else
    if a = outS ∧ (tlW a c r).length = 1 then some (X, dpt Y (.inr b) ((tlW a c r).headD .non)) else
    if ¬ a = opS ∨ wordD (.str c) = false ∨ ¬ (1 ≤ (tlW a c r).length ∧ (tlW a c r).length ≤ 4) then none else
    some (dpt X (.inr b) (.tup [.str opS, .str c, .lst (tlW a c r)]), Y)
  | _ => none
/-- two dicts in one graph -/
def G2 (a b : Addr) (X Y : List (Key × Dt)) : Gr := gput (gput (fun _ => none) a (.dct X)) b (.dct Y)
theorem G2_a {a b : Addr} {X Y : List (Key × Dt)} (h : b ≠ a) : G2 a b X Y a = some (.dct X) := by
  unfold G2
  rw [gput_ne (Ne.symm h), gput_same]
theorem G2_b {a b : Addr} {X Y : List (Key × Dt)} : G2 a b X Y b = some (.dct Y) := gput_same
theorem G2_pa {a b : Addr} {X Y Z : List (Key × Dt)} (h : b ≠ a) : gput (G2 a b X Y) a (.dct Z) = G2 a b Z Y := by
  funext x
  unfold G2 gput
  by_cases h1 : x = a
  · rw [if_pos h1, if_neg (fun e => h (by rw [← e, h1])), if_pos h1]
  · rw [if_neg h1, if_neg h1, if_neg h1]
theorem G2_pb {a b : Addr} {X Y Z : List (Key × Dt)} : gput (G2 a b X Y) b (.dct Z) = G2 a b X Z := by
  funext x
  unfold G2 gput
  by_cases h1 : x = b
  · rw [if_pos h1, if_pos h1]
  · rw [if_neg h1, if_neg h1, if_neg h1]
/-- a table whose keys are texts, of data -/
structure TbK (X : List (Key × Dt)) (ks : List Str) : Prop where
  kx : X.map (·.1) = ks.map Sum.inr
  sz : ∀ k ∈ ks, k.length ≤ Zz
  sh : ∀ kv ∈ X, shk kv.2
  ln : X.length < Zz
theorem eqK_nil (X : List (Key × Dt)) : eqK X [] = X.isEmpty := by
  unfold eqK hitD
  cases X <;> rfl
theorem gek_ks {b : Str} {X : List (Key × Dt)} {ks : List Str} (h : X.map (·.1) = ks.map Sum.inr) : gek b X = ks.any fun k => !decide (k.cps.toList < b.cps.toList) := by
  have e : gek b X = (X.map (·.1)).any fun k => match k with
      | .inr k => !decide (k.cps.toList < b.cps.toList)
      | _ => false := by
    unfold gek
    rw [List.any_map]
    rfl
  rw [e, h, List.any_map]
  rfl
theorem gek_max {b m : Str} {ks : List Str} (hm : m ∈ ks) (h : ∀ y ∈ ks, ¬ m.cps.toList < y.cps.toList) : (!decide (m.cps.toList < b.cps.toList)) = ks.any fun k => !decide (k.cps.toList < b.cps.toList) := by
  cases q : (!decide (m.cps.toList < b.cps.toList)) with
  | true => exact (List.any_eq_true.mpr ⟨m, hm, q⟩).symm
  | false =>
    refine (List.any_eq_false.mpr fun y hy => ?_).symm
    have q : m.cps.toList < b.cps.toList := by simpa using q
    have h2 := h y hy
    have : y.cps.toList < b.cps.toList := by
      rcases Nat.lt_or_ge 0 1 with _ | _
      · exact Classical.byContradiction fun hn => by
          have hn : b.cps.toList ≤ y.cps.toList := List.not_lt.mp hn
          have h2 : y.cps.toList ≤ m.cps.toList := List.not_lt.mp h2
          exact absurd (List.le_trans hn h2) (List.not_le.mpr q)
      · omega
    simp [this]
theorem ctD_drop (ds : List Dt) (k : Nat) : ctD ds (some (k : Int)) none = ds.drop k := by
  have e : HT.sIx ds.length ds.length none = ds.length := rfl
  unfold ctD
  rw [HT.sIx_nat, e]
  rcases Nat.le_total k ds.length with h | h
  · rw [Nat.min_eq_left h, List.take_of_length_le (by rw [List.length_drop]; exact Nat.le_refl _)]
  · rw [Nat.min_eq_right h, List.drop_eq_nil_of_le h, List.drop_eq_nil_of_le (Nat.le_refl _), List.take_nil]
theorem RW_ok {l : List Nat} {x : Wi} (h : RW l = some x) : wordD (.str x.1) = true ∧ ∀ t ∈ x.2, cg 24 t = true := by
  unfold RW at h
  cases q : par [64] [] l with
  | none =>
    rw [q] at h
    dsimp only at h
    by_cases hw : wordD (.str (mkS l)) = true
    · rw [if_pos hw] at h
      cases h
      exact ⟨hw, fun t ht => by cases ht⟩
    · rw [if_neg hw] at h
      cases h
  | some y =>
    rw [q] at h
    dsimp only at h
    by_cases hw : wordD (.str (mkS y.1)) = true ∧ y.2.isEmpty = false ∧ (RF y.2).any isNon = false
    · rw [if_pos hw] at h
      cases h
      refine ⟨hw.1, fun t ht => ?_⟩
      rcases RF_ok ht with e | e
      · have := List.any_eq_false.mp hw.2.2 t ht
        rw [e] at this
        exact absurd rfl this
      · exact e
    · rw [if_neg hw] at h
      cases h
theorem rwD_ok (u : Str) : rwD (.str u) = .non ∨ ∃ x : Wi, rwD (.str u) = wD x ∧ wordD (.str x.1) = true ∧ ∀ t ∈ x.2, cg 24 t = true := by
  unfold rwD
  dsimp only
  cases q : RW (tl u) with
  | none => exact .inl rfl
  | some x => exact .inr ⟨x, rfl, RW_ok q⟩
theorem wD_dat17 {x : Wi} (hw : wordD (.str x.1) = true) (h : ∀ t ∈ x.2, cg 24 t = true) : dat (wD x) = true ∧ dep (wD x) < 30 := by
  have h1 : dats x.2 = true := dats_cg h
  have h2 : deps x.2 ≤ 24 := deps_le (n := 24) fun y hy => by have := cg_dep (h y hy); omega
  refine ⟨?_, ?_⟩
  · unfold wD dat
    refine dats_of fun y hy => ?_
    simp only [List.mem_cons, List.not_mem_nil, or_false] at hy
    rcases hy with e | e
    · rw [e]; exact (word_ok hw).1
    · rw [e]; exact h1
  · unfold wD dep
    have : deps [Dt.str x.1, .lst x.2] ≤ 27 := deps_le (n := 27) fun y hy => by
      simp only [List.mem_cons, List.not_mem_nil, or_false] at hy
      rcases hy with e | e
      · rw [e]; unfold dep; omega
      · rw [e]; unfold dep; omega
    omega
theorem tlW_ok {u c : Str} {r : List Str} {d : Dt} (h : d ∈ tlW u c r) : d = .non ∨ ∃ x : Wi, d = wD x ∧ wordD (.str x.1) = true ∧ ∀ t ∈ x.2, cg 24 t = true := by
  unfold tlW at h
  obtain ⟨y, _, rfl⟩ := List.mem_map.mp h
  exact rwD_ok y
theorem tlW_dat (u c : Str) (r : List Str) : dats (tlW u c r) = true ∧ deps (tlW u c r) < 50 := by
  refine ⟨dats_of fun x hx => ?_, ?_⟩
  · rcases tlW_ok hx with e | ⟨y, e, h1, h2⟩
    · rw [e]; rfl
    · rw [e]; exact (wD_dat17 h1 h2).1
  · have := deps_le (n := 30) (xs := tlW u c r) fun x hx => by
      rcases tlW_ok hx with e | ⟨y, e, h1, h2⟩
      · rw [e]; unfold dep; omega
      · rw [e]; have := (wD_dat17 h1 h2).2; omega
    omega
theorem tlW_non (u c : Str) (r : List Str) : ((tlW u c r).any fun z => PyData.eqv (toP z) (toP .non)) = (tlW u c r).any isNon := by
  have : ∀ xs : List Dt, (∀ d ∈ xs, d = .non ∨ ∃ x : Wi, d = wD x) → (xs.any fun z => PyData.eqv (toP z) (toP .non)) = xs.any isNon := fun xs => by
    induction xs with
    | nil => intro _; rfl
    | cons x xs ih =>
      intro h
      rw [List.any_cons, List.any_cons, ih fun d hd => h d (List.mem_cons_of_mem _ hd)]
      congr 1
      rcases h x (List.mem_cons_self ..) with e | ⟨y, e⟩ <;> rw [e] <;> rfl
  exact this _ fun d hd => (tlW_ok hd).imp id fun ⟨x, e, _⟩ => ⟨x, e⟩
/-- the line's words -/
def WdsOk (ws : List Str) : Prop := ws.length ≤ 90000 ∧ ∀ u ∈ ws, u.length ≤ Zz ∧ (tl u).count 40 < 24
def RTk : GM := fun a G ds Pd _ => ∃ (b : Addr) (ws : List Str) (X Y : List (Key × Dt)) (kx ky : List Str), ds = [.lst (ws.map .str), .ad a, .ad b] ∧ b ≠ a ∧ G = G2 a b X Y ∧ TbK X kx ∧ TbK Y ky ∧ WdsOk ws ∧
  match TLn ws X Y with
  | none => Pd (.bl false) (G2 a b X Y)
  | some q => Pd (.bl true) (G2 a b q.1 q.2)
section
variable {P : Program} {w : World} {K : PySem.W.Frag} {mg : Str → Option Value} {base : Heap}
theorem w_takes_line (T : Txt P K mg) : FnOk P w K mg base CX0 28 T.a_takes_line T.d_takes_line ["words", "boxes", "outputs"] (spK K false 1 RTk) := by
  refine T.F_takes_line.ok sc_takes_line (fun vs H Q E h => k_len 3 h fun _ _ _ _ _ ⟨_, _, _, _, _, _, e, _⟩ => by rw [e]; rfl) (fun cdv A outer s H vs Q E hr h => ⟨_, PSs.nox (pss_cons (ps_if (PW.pt (pw_or (pt_cmpR op_lt (pe_callB (u_lenA K) rfl T.n_len (by decide +kernel) (pa_cons (pv 0) pa_nil)) pe_int (nomark _)) (pw_or1 (pt_not (pt_val (pe_call (ok_is_word T) (hr.mono (by omega)) rfl T.g_is_word T.F_is_word.kp T.b_is_word .nil pass0 (pa_cons (pe_ix (uIxA K (hu64 hr)) (pv 0) pe_int (fun _ _ => rfl)) pa_nil))))))) (pss_one (ps_ret pe_bl)) pss_nil) (pss_cons (ps_set (i := 3) sc_takes_line.nd rfl (Or.inl rfl) (pe_ifExp (pt_cmpR (uEq K (hu64 hr)) (pe_ix (uIxA K (hu64 hr)) (pv 0) pe_int (fun _ _ => rfl)) pe_str (nomark _)) (pv 2) (pv 1))) (pss_cons (ps_if (PW.pt (pw_or (PW.pt (pw_and (pt_cmpR (uNe K (hu64 hr)) (pv 3) pe_dnewK (nomark _)) (pw_and1 (pt_cmpR op_geS (pe_callB (cr_maxS rfl) rfl T.n_max (by decide +kernel) (pa_cons (pv 3) pa_nil)) (pe_ix (uIxA K (hu64 hr)) (pv 0) pe_int (fun _ _ => rfl)) (nomark _))))) (pw_or1 (PW.pt (pw_and (pt_cmpR (uNe K (hu64 hr)) (pe_ix (uIxA K (hu64 hr)) (pv 0) pe_int (fun _ _ => rfl)) pe_str (nomark _)) (pw_and1 (pt_cmpR (uNe K (hu64 hr)) (pv 2) pe_dnewK (nomark _)))))))) (pss_one (ps_ret pe_bl)) pss_nil) (pss_cons (ps_if (PW.pt (pw_and (pt_cmpR (uEq K (hu64 hr)) (pe_ix (uIxA K (hu64 hr)) (pv 0) pe_int (fun _ _ => rfl)) pe_str (nomark _)) (pw_and (pt_cmpR (uEq K (hu64 hr)) (pe_callB (u_lenA K) rfl T.n_len (by decide +kernel) (pa_cons (pv 0) pa_nil)) pe_int (nomark _)) (pw_and1 (pt_val (pe_call (ok_is_word T) (hr.mono (by omega)) rfl T.g_is_word T.F_is_word.kp T.b_is_word .nil pass0 (pa_cons (pe_ix (uIxA K (hu64 hr)) (pv 0) pe_int (fun _ _ => rfl)) pa_nil))))))) (pss_cons (ps_dput (hu_of hr) (pv 1) (pe_ix (uIxA K (hu64 hr)) (pv 0) pe_int (fun _ _ => rfl)) (pe_tup (pa_cons pe_str (pa_cons (pe_ix (uIxA K (hu64 hr)) (pv 0) pe_int (fun _ _ => rfl)) pa_nil))) rfl) (pss_one (ps_ret pe_bl))) pss_nil) (pss_cons (ps_setLc (i := 4) (own := [("word", 5)]) (g := gName 5) rfl sc_takes_line.nd rfl rfl (sw_true rfl rfl rfl (by decide +kernel)) (pi_anyK (K := K) (pe_ifExp (pt_cmpR (uEq K (hu64 hr)) (pe_ix (uIxA K (hu64 hr)) (pv 0) pe_int (fun _ _ => rfl)) pe_str (nomark _)) (pe_slice (uSlA K) (pv 0) (po_some pe_int) po_none) (pe_slice (uSlA K) (pv 0) (po_some pe_int) po_none))) (blkOk_by (N := ["words", "boxes", "outputs", "table", "wires", "word"]) (sc := defScope s_takes_line) (by decide +kernel)) (fun _ _ _ _ _ => (pg_name (i := 5) sc_takes_line.nd rfl (Or.inl rfl))) (fun _ _ _ _ _ => pts_nil) (fun _ _ _ _ _ => (pe_call (w_read_wire T) (hr.mono (by omega)) rfl T.g_read_wire T.F_read_wire.kp T.b_read_wire .nil pass0 (pa_cons (pv 5) pa_nil)))) (pss_cons (ps_if (pt_cmpR (u_inD K (hu65 hr)) pe_non (pv 4) (by with_unfolding_all rfl)) (pss_one (ps_ret pe_bl)) pss_nil) (pss_cons (ps_if (PW.pt (pw_and (pt_cmpR (uEq K (hu64 hr)) (pe_ix (uIxA K (hu64 hr)) (pv 0) pe_int (fun _ _ => rfl)) pe_str (nomark _)) (pw_and1 (pt_cmpR (uEq K (hu64 hr)) (pe_callB (u_lenA K) rfl T.n_len (by decide +kernel) (pa_cons (pv 4) pa_nil)) pe_int (nomark _))))) (pss_cons (ps_dput (hu_of hr) (pv 2) (pe_ix (uIxA K (hu64 hr)) (pv 0) pe_int (fun _ _ => rfl)) (pe_ix (uIxA K (hu64 hr)) (pv 4) pe_int (fun _ _ => rfl)) rfl) (pss_one (ps_ret pe_bl))) pss_nil) (pss_cons (ps_if (PW.pt (pw_or (pt_cmpR (uNe K (hu64 hr)) (pe_ix (uIxA K (hu64 hr)) (pv 0) pe_int (fun _ _ => rfl)) pe_str (nomark _)) (pw_or (pt_not (pt_val (pe_call (ok_is_word T) (hr.mono (by omega)) rfl T.g_is_word T.F_is_word.kp T.b_is_word .nil pass0 (pa_cons (pe_ix (uIxA K (hu64 hr)) (pv 0) pe_int (fun _ _ => rfl)) pa_nil)))) (pw_or1 (pt_not (pt_chain op_le op_le pe_int (pe_callB (u_lenA K) rfl T.n_len (by decide +kernel) (pa_cons (pv 4) pa_nil)) (pe_glob (v := .int 4) rfl T.h_MOST_WIRES.choose_spec ⟨_, rfl⟩))))))) (pss_one (ps_ret pe_bl)) pss_nil) (pss_cons (ps_dput (hu_of hr) (pv 1) (pe_ix (uIxA K (hu64 hr)) (pv 0) pe_int (fun _ _ => rfl)) (pe_tup (pa_cons pe_str (pa_cons (pe_ix (uIxA K (hu64 hr)) (pv 0) pe_int (fun _ _ => rfl)) (pa_cons (pv 4) pa_nil)))) rfl) (pss_one (ps_ret pe_bl))))))))))), k_start h 6 rfl fun a G ds Pd xe ⟨b, ws, X, Y, kx, ky, e, hba, eG, hX, hY, hw, p⟩ => ?_⟩)
  subst e
  subst eG
  refine ⟨Nat.le_of_ble_eq_true rfl, ?_⟩
  show Wd _ [.v (.lst (ws.map .str)), .own (gD a (G2 a b X Y)), .v (.ad b), .no, .no, .no] _ _
  have no : TLn ws X Y = none → Pd (.bl false) (G2 a b X Y) := fun e => by rw [e] at p; exact p
  refine wd_seq (wd_if (eb_or (eb_test (et_op rop_lt (et_cb rcl_len (ea_cons (et_var rfl (ea_nil (lenLst (et_int (Wv.b2 (fun h => iteT (wd_retE (et_bl ?_))) fun h => ?_)))))))))))
  · refine ⟨1, a, _, rfl, no ?_⟩
    have h := of_decide_eq_true h
    rw [List.length_map] at h
    match ws, h with
    | [], _ => rfl
    | [_], _ => rfl
    | [_, _], _ => rfl
    | _ :: _ :: _ :: _, h => simp only [List.length_cons] at h; omega
  have h := of_decide_eq_false h
  rw [List.length_map] at h
  obtain ⟨u, v, c, r, rfl⟩ : ∃ u v c r, ws = u :: v :: c :: r := by
    match ws, h with
    | [], h => simp at h
    | [_], h => simp at h
    | [_, _], h => simp at h
    | u :: v :: c :: r, _ => exact ⟨u, v, c, r, rfl⟩
  clear h
  refine eb_not (eb_B (et_call0 nolk (ea_cons (et_op rop_ix (et_var rfl (et_int (fx1 rfl (ea_nil ⟨_, rfl, rfl, n2 (fun hv => wd_retE (et_bl ⟨1, a, _, rfl, no ?_⟩)) fun hv => wd_next ?_⟩))))))))
  · unfold TLn
    dsimp only
    rw [if_pos hv]
  obtain ⟨cA, eA⟩ : ∃ cA, cA = if u = outS then b else a := ⟨_, rfl⟩
  obtain ⟨tD, eD⟩ : ∃ tD, tD = if u = outS then Y else X := ⟨_, rfl⟩
  obtain ⟨kt, hT⟩ : ∃ kt, TbK tD kt := by
    rw [eD]
    by_cases h : u = outS
    · rw [if_pos h]; exact ⟨_, hY⟩
    · rw [if_neg h]; exact ⟨_, hX⟩
  have hc : G2 a b X Y cA = some (.dct tD) := by
    rw [eA, eD]
    by_cases h : u = outS
    · rw [if_pos h, if_pos h]; exact G2_b
    · rw [if_neg h, if_neg h]; exact G2_a hba
  refine wd_cut (Mid := fun e => e = [.v (.lst ((u :: v :: c :: r).map .str)), .own (gD a (G2 a b X Y)), .v (.ad b), .v (.ad cA), .no, .no]) ?_ ?_
  · refine wd_asg (et_if (eb_test (et_op rop_eq (et_op rop_ix (et_var rfl (et_int (fx0 rfl (et_str (feq_s (Wv.b2 (fun h => et_var rfl ?_) fun h => et_selfG rfl ?_))))))))))
    · show [_, _, _, _, _, _] = [_, _, _, _, _, _]
      rw [eA, if_pos (of_decide_eq_true h)]
    · show [_, _, _, _, _, _] = [_, _, _, _, _, _]
      rw [eA, if_neg (of_decide_eq_false h)]
  rintro e rfl
  have bad : (gek v tD = true ∨ (u ≠ outS ∧ Y.isEmpty = false)) → TLn (u :: v :: c :: r) X Y = none := fun h => by
    unfold TLn
    dsimp only
    rw [if_neg (by rw [hv]; decide), ← eD, if_pos h]
  refine wd_cut (Mid := fun e => e = [.v (.lst ((u :: v :: c :: r).map .str)), .own (gD a (G2 a b X Y)), .v (.ad b), .v (.ad cA), .no, .no] ∧ ¬ (gek v tD = true ∨ (u ≠ outS ∧ Y.isEmpty = false))) ?_ ?_
  · refine wd_if (eb_or (eb_and (eb_test (et_opLG rop_ne (et_var rfl ⟨cA, rfl, Ef.et (ef_dnew ⟨1, a, _, _, rfl, hc, hT.sh, (fun kv h => by cases h), rfl, ?_⟩)⟩)))))
    rw [eqK_nil]
    refine v2 (fun h => ?_) fun h => ?_
    · have hk0 : 0 < kt.length := by
        have e := congrArg List.length hT.kx
        rw [List.length_map, List.length_map] at e
        cases tD with
        | nil => cases h
        | cons => rw [← e]; exact Nat.succ_pos _
      refine eb_test (et_op rop_geS (et_cbG rcl_maxS (et_var rfl ⟨cA, 1, a, _, _, rfl, rfl, hc, tD, kt, rfl, hT.kx, hk0, hT.sz, fun m hm hmax => ⟨rfl, et_op rop_ix (et_var rfl (et_int (fx1 rfl ?_)))⟩⟩)))
      have eg : (!decide (m.cps.toList < v.cps.toList)) = gek v tD := (gek_max hm hmax).trans (gek_ks hT.kx).symm
      show isB (.bl (!decide (m.cps.toList < v.cps.toList))) _
      rw [eg]
      refine Wv.b2 (fun hg => iteT (wd_retE (et_bl ⟨1, a, _, rfl, no (bad (.inl hg))⟩))) fun hg => ?_
      refine eb_and (eb_test (et_op rop_ne (et_op rop_ix (et_var rfl (et_int (fx0 rfl (et_str (fne_s (Wv.b2 (fun h1 => ?_) fun h1 => wd_next ⟨rfl, fun z => ?_⟩)))))))))
      · refine eb_test (et_opLG rop_ne (et_var rfl ⟨b, rfl, Ef.et (ef_dnew ⟨1, a, _, _, rfl, G2_b, hY.sh, (fun kv h => by cases h), rfl, ?_⟩)⟩))
        rw [eqK_nil]
        refine v2 (fun h2 => wd_retE (et_bl ⟨1, a, _, rfl, no (bad (.inr ⟨by simpa using h1, h2⟩))⟩)) fun h2 => wd_next ⟨rfl, fun z => ?_⟩
        rcases z with z | z
        · rw [hg] at z; cases z
        · rw [h2] at z; exact absurd z.2 (by decide)
      · rcases z with z | z
        · rw [hg] at z; cases z
        · exact absurd z.1 (by simpa using h1)
    · have hg : gek v tD = false := by
        cases tD with
        | nil => rfl
        | cons => cases h
      refine eb_and (eb_test (et_op rop_ne (et_op rop_ix (et_var rfl (et_int (fx0 rfl (et_str (fne_s (Wv.b2 (fun h1 => ?_) fun h1 => wd_next ⟨rfl, fun z => ?_⟩)))))))))
      · refine eb_test (et_opLG rop_ne (et_var rfl ⟨b, rfl, Ef.et (ef_dnew ⟨1, a, _, _, rfl, G2_b, hY.sh, (fun kv h => by cases h), rfl, ?_⟩)⟩))
        rw [eqK_nil]
        refine v2 (fun h2 => wd_retE (et_bl ⟨1, a, _, rfl, no (bad (.inr ⟨by simpa using h1, h2⟩))⟩)) fun h2 => wd_next ⟨rfl, fun z => ?_⟩
        rcases z with z | z
        · rw [hg] at z; cases z
        · rw [h2] at z; exact absurd z.2 (by decide)
      · rcases z with z | z
        · rw [hg] at z; cases z
        · exact absurd z.1 (by simpa using h1)
  rintro e ⟨rfl, hgood⟩
  have hp : match (if u = inS ∧ r.isEmpty = true ∧ wordD (.str c) = true then some (dpt X (.inr v) (.tup [.str inS, .str c]), Y) else
    if (tlW u c r).any isNon = true then none else
    if u = outS ∧ (tlW u c r).length = 1 then some (X, dpt Y (.inr v) ((tlW u c r).headD .non)) else
    if ¬ u = opS ∨ wordD (.str c) = false ∨ ¬ (1 ≤ (tlW u c r).length ∧ (tlW u c r).length ≤ 4) then none else
    some (dpt X (.inr v) (.tup [.str opS, .str c, .lst (tlW u c r)]), Y)) with
    | none => Pd (.bl false) (G2 a b X Y)
    | some q => Pd (.bl true) (G2 a b q.1 q.2) := by
    unfold TLn at p
    dsimp only at p
    rw [if_neg (by rw [hv]; decide), ← eD, if_neg hgood] at p
    exact p
  clear p no bad
  refine wd_cut (Mid := fun e => e = [.v (.lst ((u :: v :: c :: r).map .str)), .own (gD a (G2 a b X Y)), .v (.ad b), .v (.ad cA), .no, .no] ∧ ¬ (u = inS ∧ r.isEmpty = true ∧ wordD (.str c) = true)) ?_ ?_
  · refine wd_if (eb_and (eb_test (et_op rop_eq (et_op rop_ix (et_var rfl (et_int (fx0 rfl (et_str (feq_s (Wv.b2 (fun h1 => ?_) fun h1 => wd_next ⟨rfl, fun z => of_decide_eq_false h1 z.1⟩))))))))))
    refine eb_and (eb_test (et_op rop_eq (et_cb rcl_len (ea_cons (et_var rfl (ea_nil (lenLst (et_int (feq_i (Wv.b2 (fun h2 => ?_) fun h2 => wd_next ⟨rfl, fun z => of_decide_eq_false h2 ?_⟩))))))))))
    · refine eb_B (et_call0 nolk (ea_cons (et_op rop_ix (et_var rfl (et_int (fx2 rfl (ea_nil ⟨_, rfl, rfl, Wv.b2 (fun h3 => ?_) fun h3 => wd_next ⟨rfl, fun z => by rw [h3] at z; exact absurd z.2.2 (by decide)⟩⟩)))))))
      have hr : r.isEmpty = true := by
        have h2 := of_decide_eq_true h2
        rw [List.length_map] at h2
        simp only [List.length_cons] at h2
        cases r with
        | nil => rfl
        | cons => simp only [List.length_cons] at h2; omega
      rw [if_pos ⟨of_decide_eq_true h1, hr, h3⟩] at hp
      refine wd_seq (wd_dputG (et_tup (ea_cons (et_str (ea_cons (et_op rop_ix (et_var rfl (et_int (fx2 rfl (ea_nil ⟨Nat.le_of_ble_eq_true rfl, et_selfG rfl ⟨a, rfl, et_op rop_ix (et_var rfl (et_int (fx1 rfl (kdS ⟨1, a, _, X, rfl, G2_a hba, hX.ln, ?_⟩))))⟩⟩))))))))))
      rw [G2_pa hba]
      exact wd_retE (et_bl ⟨1, a, _, rfl, hp⟩)
    · rw [List.length_map]
      have := List.isEmpty_iff.mp z.2.1
      rw [this]
      rfl
  rintro e ⟨rfl, hin⟩
  rw [if_neg hin] at hp
  have e2 : ∀ (xs : List Str), ((xs.map Dt.str).map rwD) = xs.map fun u => rwD (.str u) := fun xs => by rw [List.map_map]; rfl
  have item : ∀ (xs : List Str), (∀ x ∈ xs, x ∈ u :: v :: c :: r) → ∀ d ∈ xs.map Dt.str, ∃ z : Str, d = .str z ∧ z.length ≤ Zz ∧ (tl z).count 40 < 24 := fun xs hs d hd => by
    obtain ⟨z, hz, rfl⟩ := List.mem_map.mp hd
    exact ⟨z, rfl, hw.2 z (hs z hz)⟩
  refine wd_cut (Mid := fun e => e = [.v (.lst ((u :: v :: c :: r).map .str)), .own (gD a (G2 a b X Y)), .v (.ad b), .v (.ad cA), .v (.lst (tlW u c r)), .no]) ?_ ?_
  · refine wd_asg (Ef.et (ef_mapY rwD (ei_seq (et_if (eb_test (et_op rop_eq (et_op rop_ix (et_var rfl (et_int (fx0 rfl (et_str (feq_s (Wv.b2 (fun h => ?_) fun h => ?_)))))))))))))
    · refine et_sl (et_var rfl (eo_some (et_int ⟨2, rfl, eo_none (slL (itsL ?_))⟩)))
      rw [show ctD ((u :: v :: c :: r).map Dt.str) (some 2) none = (c :: r).map Dt.str from ctD_drop _ 2]
      refine ⟨nown_no rfl, fun d hd => et_call0 nolk (ea_cons (et_var rfl (ea_nil ⟨d, rfl, item (c :: r) (fun x hx => List.mem_cons_of_mem _ (List.mem_cons_of_mem _ hx)) d hd, rfl, rfl⟩))), ?_⟩
      rw [e2]
      show [_, _, _, _, _, _] = [_, _, _, _, _, _]
      unfold tlW
      rw [if_pos (of_decide_eq_true h)]
    · refine et_sl (et_var rfl (eo_some (et_int ⟨3, rfl, eo_none (slL (itsL ?_))⟩)))
      rw [show ctD ((u :: v :: c :: r).map Dt.str) (some 3) none = r.map Dt.str from ctD_drop _ 3]
      refine ⟨nown_no rfl, fun d hd => et_call0 nolk (ea_cons (et_var rfl (ea_nil ⟨d, rfl, item r (fun x hx => List.mem_cons_of_mem _ (List.mem_cons_of_mem _ (List.mem_cons_of_mem _ hx))) d hd, rfl, rfl⟩))), ?_⟩
      rw [e2]
      show [_, _, _, _, _, _] = [_, _, _, _, _, _]
      unfold tlW
      rw [if_neg (of_decide_eq_false h)]
  rintro e rfl
  have hD := tlW_dat u c r
  have hN := tlW_non u c r
  have hK := fun d (h : d ∈ tlW u c r) => tlW_ok h
  generalize tlW u c r = W at hp hD hN hK ⊢
  refine wd_seq (wd_if (eb_test (et_op rop_inD (et_non (et_var rfl ⟨W, rfl, shp_nonR, shp_of (by unfold dat; exact hD.1) (by unfold dep; have := hD.2; omega), ?_⟩)))))
  show isB (.bl (if false = true then _ else W.any fun z => PyData.eqv (toP z) (toP .non))) _
  rw [if_neg Bool.false_ne_true, hN]
  refine Wv.b2 (fun hn => wd_retE (et_bl ⟨1, a, _, rfl, ?_⟩)) fun hn => wd_next ?_
  · rw [if_pos hn] at hp
    exact hp
  rw [if_neg (by rw [hn]; decide)] at hp
  refine wd_cut (Mid := fun e => e = [.v (.lst ((u :: v :: c :: r).map .str)), .own (gD a (G2 a b X Y)), .v (.ad b), .v (.ad cA), .v (.lst W), .no] ∧ ¬ (u = outS ∧ W.length = 1)) ?_ ?_
  · refine wd_if (eb_and (eb_test (et_op rop_eq (et_op rop_ix (et_var rfl (et_int (fx0 rfl (et_str (feq_s (Wv.b2 (fun h1 => ?_) fun h1 => wd_next ⟨rfl, fun z => of_decide_eq_false h1 z.1⟩))))))))))
    refine eb_test (et_op rop_eq (et_cb rcl_len (ea_cons (et_var rfl (ea_nil (lenLst (et_int (feq_i (Wv.b2 (fun h2 => ?_) fun h2 => wd_next ⟨rfl, fun z => of_decide_eq_false h2 (by rw [z.2]; rfl)⟩)))))))))
    have h2 := of_decide_eq_true h2
    obtain ⟨d, rfl⟩ : ∃ d, W = [d] := by
      match W, h2 with
      | [d], _ => exact ⟨d, rfl⟩
      | [], h => simp at h
      | _ :: _ :: _, h => simp only [List.length_cons] at h; omega
    rw [if_pos ⟨of_decide_eq_true h1, rfl⟩] at hp
    refine wd_seq (wd_dputG (et_op rop_ix (et_var rfl (et_int (fx0 rfl (et_var rfl ⟨b, rfl, et_op rop_ix (et_var rfl (et_int (fx1 rfl (kdS ⟨1, a, _, Y, rfl, G2_b, hY.ln, ?_⟩))))⟩))))))
    rw [G2_pb]
    exact wd_retE (et_bl ⟨1, a, _, rfl, hp⟩)
  rintro e ⟨rfl, hout⟩
  rw [if_neg hout] at hp
  have bad2 : (¬ u = opS ∨ wordD (.str c) = false ∨ ¬ (1 ≤ W.length ∧ W.length ≤ 4)) → Pd (.bl false) (G2 a b X Y) := fun h => by
    rw [if_pos h] at hp
    exact hp
  refine wd_seq (wd_if (eb_or (eb_test (et_op rop_ne (et_op rop_ix (et_var rfl (et_int (fx0 rfl (et_str (fne_s (Wv.b2 (fun h1 => iteT (wd_retE (et_bl ⟨1, a, _, rfl, bad2 (.inl (by simpa using h1))⟩))) fun h1 => ?_)))))))))))
  refine eb_or (eb_not (eb_B (et_call0 nolk (ea_cons (et_op rop_ix (et_var rfl (et_int (fx2 rfl (ea_nil ⟨_, rfl, rfl, n2 (fun h2 => iteT (wd_retE (et_bl ⟨1, a, _, rfl, bad2 (.inr (.inl h2))⟩))) fun h2 => ?_⟩)))))))))
  refine eb_not (eb_test (et_chain rop_le rop_le (et_int (et_cb rcl_len (ea_cons (et_var rfl (ea_nil (lenLst (Wv.b2 (fun h3 => et_int (n2 (fun h4 => wd_retE (et_bl ⟨1, a, _, rfl, bad2 (.inr (.inr ?_))⟩)) fun h4 => wd_next ?_)) fun h3 => nf rfl (wd_retE (et_bl ⟨1, a, _, rfl, bad2 (.inr (.inr ?_))⟩)))))))))))
  · have h4 := of_decide_eq_false h4
    intro z
    exact h4 (by omega)
  · have h3 := of_decide_eq_true h3
    have h4 := of_decide_eq_true h4
    have h1 : u = opS := by simpa using h1
    rw [if_neg (fun z => by
      rcases z with z | z | z
      · exact z h1
      · rw [h2] at z; cases z
      · exact z ⟨by omega, by omega⟩)] at hp
    refine wd_seq (wd_dputG (et_tup (ea_cons (et_str (ea_cons (et_op rop_ix (et_var rfl (et_int (fx2 rfl (ea_cons (et_var rfl (ea_nil ⟨Nat.le_of_ble_eq_true rfl, et_selfG rfl ⟨a, rfl, et_op rop_ix (et_var rfl (et_int (fx1 rfl (kdS ⟨1, a, _, X, rfl, G2_a hba, hX.ln, ?_⟩))))⟩⟩))))))))))))
    rw [G2_pa hba]
    exact wd_retE (et_bl ⟨1, a, _, rfl, hp⟩)
  · have h3 := of_decide_eq_false h3
    intro z
    exact h3 (by omega)
end
end Lw
namespace Lw
open PySem PySem.Spec PyProof.Rows L2 Evl Wv
set_option hygiene false in
local macro_rules
  | `(tactic| ac_rfl) => `(tactic| repeat' (first | (with_reducible show Et _ _ _ _; first | with_reducible refine et_popAt (by with_unfolding_all rfl) ?_ | with_reducible refine et_var (by with_unfolding_all rfl) ?_ | with_reducible refine et_int ?_ | with_reducible refine et_str ?_ | with_reducible refine et_bl ?_ | with_reducible refine et_non ?_ | with_reducible refine et_andV ?_ | with_reducible refine et_orV ?_ | with_reducible refine et_notV ?_ | with_reducible refine et_if ?_ | with_reducible refine et_isStr ?_ | with_reducible refine et_isInt ?_ | with_reducible refine et_isBool ?_ | with_reducible refine et_isDict ?_ | with_reducible refine et_isList ?_ | with_reducible refine et_isTuple ?_ | with_reducible refine et_isLT ?_ | with_reducible refine et_tup ?_ | with_reducible refine et_neg ?_ | with_reducible refine et_ixO (by with_unfolding_all rfl) ?_ | with_reducible refine et_opL (by first | exact rop_ix | exact rop_eq | exact rop_ne | exact rop_in | exact rop_ni | exact rop_add | exact rop_sub | exact rop_mul | exact rop_lt | exact rop_le | exact rop_gt | exact rop_ge | exact rop_mod | exact rop_div | exact rop_isN | exact rop_notN) (by with_unfolding_all rfl) ?_ | with_reducible refine et_opRo (by first | exact rop_ix | exact rop_eq | exact rop_ne | exact rop_in | exact rop_ni | exact rop_add | exact rop_sub | exact rop_mul | exact rop_lt | exact rop_le | exact rop_gt | exact rop_ge | exact rop_mod | exact rop_div | exact rop_isN | exact rop_notN) (by with_unfolding_all rfl) ?_ | with_reducible refine et_op (by first | exact rop_ix | exact rop_eq | exact rop_ne | exact rop_in | exact rop_ni | exact rop_add | exact rop_sub | exact rop_mul | exact rop_lt | exact rop_le | exact rop_gt | exact rop_ge | exact rop_mod | exact rop_div | exact rop_isN | exact rop_notN) ?_ | with_reducible refine et_cbO (by first | exact rcl_len | exact rcl_int | exact rcl_sum | exact rcl_max | exact rcl_min | exact rcl_all | exact rcl_any) (by with_unfolding_all rfl) ?_ | with_reducible refine et_cb (by first | exact rcl_len | exact rcl_int | exact rcl_sum | exact rcl_max | exact rcl_min | exact rcl_all | exact rcl_any) ?_ | with_reducible refine et_chain (by first | exact rop_ix | exact rop_eq | exact rop_ne | exact rop_in | exact rop_ni | exact rop_add | exact rop_sub | exact rop_mul | exact rop_lt | exact rop_le | exact rop_gt | exact rop_ge | exact rop_mod | exact rop_div | exact rop_isN | exact rop_notN) (by first | exact rop_ix | exact rop_eq | exact rop_ne | exact rop_in | exact rop_ni | exact rop_add | exact rop_sub | exact rop_mul | exact rop_lt | exact rop_le | exact rop_gt | exact rop_ge | exact rop_mod | exact rop_div | exact rop_isN | exact rop_notN) ?_ | with_reducible refine et_dget2O (by with_unfolding_all rfl) ?_ | with_reducible refine et_dget2 ?_ | with_reducible refine et_call0 nolk ?_ | with_reducible refine et_call0 samelk ?_ | with_reducible refine et_sl ?_) | (with_reducible show Wd _ _ _ _; first | with_reducible refine wd_seq ?_ | with_reducible refine wd_if ?_ | with_reducible refine wd_ret ?_ | with_reducible refine wd_next ?_ | with_reducible refine wd_raise ?_ | with_reducible refine wd_dput ?_ | with_reducible refine wd_app (by with_unfolding_all rfl) ?_ | with_reducible refine wd_retN ?_) | (with_reducible show Ea _ _ _ _; first | with_reducible refine ea_nil ?_ | with_reducible refine ea_cons ?_) | (with_reducible show Eb _ _ _ _; first | with_reducible refine eb_or ?_ | with_reducible refine eb_and ?_ | with_reducible refine eb_not ?_ | with_reducible refine eb_B ?_ | with_reducible refine eb_test ?_ | with_reducible refine eb_yes ?_) | (with_reducible show Eo _ _ _ _; first | with_reducible refine eo_none ?_ | with_reducible refine eo_some ?_) | with_reducible refine isTyI (by first | with_unfolding_all rfl | assumption | exact pur_ok (by assumption)) ?_ | with_reducible refine iteT ?_ | with_reducible refine iteF ?_ | with_reducible refine bt (by first | with_unfolding_all rfl | assumption) ?_ | with_reducible refine bf (by first | with_unfolding_all rfl | assumption) ?_ | with_reducible refine nt (by first | with_unfolding_all rfl | assumption) ?_ | with_reducible refine nf (by first | with_unfolding_all rfl | assumption) ?_ | with_reducible refine fin_s ?_ | with_reducible refine fni_s ?_ | with_reducible refine fx0 (by first | with_unfolding_all rfl | assumption) ?_ | with_reducible refine fx1 (by first | with_unfolding_all rfl | assumption) ?_ | with_reducible refine fx2 (by first | with_unfolding_all rfl | assumption) ?_ | with_reducible refine fxlen (by first | with_unfolding_all rfl | assumption) ?_ | with_reducible refine fxit (by first | with_unfolding_all rfl | assumption) ?_ | with_reducible refine feq_i ?_ | with_reducible refine feq_s ?_ | with_reducible refine fne_i ?_ | with_reducible refine fne_s ?_ | with_reducible refine r1_i (by first | with_unfolding_all rfl | assumption | exact pur_ok (by assumption)) ?_ | with_reducible refine sclI (by with_unfolding_all rfl) ?_ | with_reducible refine lenI (by with_unfolding_all rfl) ?_ | with_reducible refine eI ?_ | with_reducible refine addI ?_ | with_reducible refine jI ?_ | with_reducible refine lenLst ?_ | with_reducible refine lenTup ?_ | with_reducible refine lenDct ?_ | with_reducible refine lenStr ?_ | with_reducible refine slL ?_ | with_reducible refine slT ?_ | with_reducible refine slS ?_ | with_reducible refine intI ?_ | with_reducible refine intB ?_ | with_reducible refine itsL ?_ | with_reducible refine itsT ?_ | with_reducible refine itdL ?_ | with_reducible refine itdT ?_ | with_reducible refine kdI ?_ | with_reducible refine kdS ?_ | with_reducible refine exOwn (by with_unfolding_all rfl) ?_ | with_reducible refine exOwnD (by with_unfolding_all rfl) ?_ | with_reducible refine exOwnL (by with_unfolding_all rfl) ?_))
set_option hygiene false in
local macro_rules
  | `(tactic| nofun) => `(tactic| repeat' (first | (with_reducible show Et _ _ _ _; first | with_reducible refine et_popAt (by with_unfolding_all rfl) ?_ | with_reducible refine et_var (by with_unfolding_all rfl) ?_ | with_reducible refine et_int ?_ | with_reducible refine et_str ?_ | with_reducible refine et_bl ?_ | with_reducible refine et_non ?_ | with_reducible refine et_andV ?_ | with_reducible refine et_orV ?_ | with_reducible refine et_notV ?_ | with_reducible refine et_if ?_ | with_reducible refine et_isStr ?_ | with_reducible refine et_isInt ?_ | with_reducible refine et_isBool ?_ | with_reducible refine et_isDict ?_ | with_reducible refine et_isList ?_ | with_reducible refine et_isTuple ?_ | with_reducible refine et_isLT ?_ | with_reducible refine et_tup ?_ | with_reducible refine et_neg ?_ | with_reducible refine et_ixO (by with_unfolding_all rfl) ?_ | with_reducible refine et_opL (by first | exact rop_ix | exact rop_eq | exact rop_ne | exact rop_in | exact rop_ni | exact rop_add | exact rop_sub | exact rop_mul | exact rop_lt | exact rop_le | exact rop_gt | exact rop_ge | exact rop_mod | exact rop_div | exact rop_isN | exact rop_notN) (by with_unfolding_all rfl) ?_ | with_reducible refine et_opRo (by first | exact rop_ix | exact rop_eq | exact rop_ne | exact rop_in | exact rop_ni | exact rop_add | exact rop_sub | exact rop_mul | exact rop_lt | exact rop_le | exact rop_gt | exact rop_ge | exact rop_mod | exact rop_div | exact rop_isN | exact rop_notN) (by with_unfolding_all rfl) ?_ | with_reducible refine et_op (by first | exact rop_ix | exact rop_eq | exact rop_ne | exact rop_in | exact rop_ni | exact rop_add | exact rop_sub | exact rop_mul | exact rop_lt | exact rop_le | exact rop_gt | exact rop_ge | exact rop_mod | exact rop_div | exact rop_isN | exact rop_notN) ?_ | with_reducible refine et_cbO (by first | exact rcl_len | exact rcl_int | exact rcl_sum | exact rcl_max | exact rcl_min | exact rcl_all | exact rcl_any) (by with_unfolding_all rfl) ?_ | with_reducible refine et_cb (by first | exact rcl_len | exact rcl_int | exact rcl_sum | exact rcl_max | exact rcl_min | exact rcl_all | exact rcl_any) ?_ | with_reducible refine et_chain (by first | exact rop_ix | exact rop_eq | exact rop_ne | exact rop_in | exact rop_ni | exact rop_add | exact rop_sub | exact rop_mul | exact rop_lt | exact rop_le | exact rop_gt | exact rop_ge | exact rop_mod | exact rop_div | exact rop_isN | exact rop_notN) (by first | exact rop_ix | exact rop_eq | exact rop_ne | exact rop_in | exact rop_ni | exact rop_add | exact rop_sub | exact rop_mul | exact rop_lt | exact rop_le | exact rop_gt | exact rop_ge | exact rop_mod | exact rop_div | exact rop_isN | exact rop_notN) ?_ | with_reducible refine et_dget2 ?_ | with_reducible refine et_call0 nolk ?_ | with_reducible refine et_call0 samelk ?_ | with_reducible refine et_sl ?_) | (with_reducible show Wd _ _ _ _; first | with_reducible refine wd_seq ?_ | with_reducible refine wd_if ?_ | with_reducible refine wd_ret ?_ | with_reducible refine wd_next ?_ | with_reducible refine wd_raise ?_) | (with_reducible show Ea _ _ _ _; first | with_reducible refine ea_nil ?_ | with_reducible refine ea_cons ?_) | (with_reducible show Eb _ _ _ _; first | with_reducible refine eb_or ?_ | with_reducible refine eb_and ?_ | with_reducible refine eb_not ?_ | with_reducible refine eb_B ?_ | with_reducible refine eb_test ?_) | (with_reducible show Eo _ _ _ _; first | with_reducible refine eo_none ?_ | with_reducible refine eo_some ?_) | with_reducible refine isTyI (by first | with_unfolding_all rfl | assumption | exact pur_ok (by assumption)) ?_ | with_reducible refine iteT ?_ | with_reducible refine iteF ?_ | with_reducible refine bt (by first | with_unfolding_all rfl | assumption) ?_ | with_reducible refine bf (by first | with_unfolding_all rfl | assumption) ?_ | with_reducible refine nt (by first | with_unfolding_all rfl | assumption) ?_ | with_reducible refine nf (by first | with_unfolding_all rfl | assumption) ?_ | with_reducible refine fin_s ?_ | with_reducible refine fni_s ?_ | with_reducible refine fx0 (by first | with_unfolding_all rfl | assumption) ?_ | with_reducible refine fx1 (by first | with_unfolding_all rfl | assumption) ?_ | with_reducible refine fx2 (by first | with_unfolding_all rfl | assumption) ?_ | with_reducible refine fxlen (by first | with_unfolding_all rfl | assumption) ?_ | with_reducible refine fxit (by first | with_unfolding_all rfl | assumption) ?_ | with_reducible refine feq_i ?_ | with_reducible refine feq_s ?_ | with_reducible refine fne_i ?_ | with_reducible refine fne_s ?_ | with_reducible refine r1_i (by first | with_unfolding_all rfl | assumption | exact pur_ok (by assumption)) ?_ | with_reducible refine sclI (by with_unfolding_all rfl) ?_ | with_reducible refine lenI (by with_unfolding_all rfl) ?_ | with_reducible refine eI ?_))
/-! ### drawn nets -/
/-- a wire of a drawn net, of the box at place i of the row: what holds nothing leads back; C: its start words, M: the most that it holds -/
def wireAtC (C : Dt → Bool) (M : Nat) (row : List Str) (i : Nat) (x : Wi) : Prop := (∀ t ∈ x.2, C t = true) ∧ x.2.length ≤ M ∧ ∃ j, row[j]? = some x.1 ∧ (x.2 = [] → j < i)
/-- the box at place i of the row -/
inductive DBoxC (C : Dt → Bool) (M : Nat) (row : List Str) (i : Nat) : (t : Dt) → Prop where
  | inp (z : Str) (h : z = "x" ∨ z = "y") : DBoxC C M row i (Dt.tup [.str "in", .str z])
  | op (f : Str) (ws : List Wi) (ha : (f, (ws.length : Int)) ∈ arT) (hw : ∀ x ∈ ws, wireAtC C M row i x) : DBoxC C M row i (Dt.tup [.str "op", .str f, .lst (ws.map wD)])
abbrev DBoxM := DBoxC cs
abbrev DBox := DBoxM 8
theorem DBoxC.mono {C C' : Dt → Bool} (hC : ∀ t, C t = true → C' t = true) {M M' : Nat} (h : M ≤ M') {row : List Str} {i : Nat} {t : Dt} (d : DBoxC C M row i t) : DBoxC C' M' row i t := by
  cases d with
  | inp z h => exact .inp z h
  | op f ws ha hw => exact .op f ws ha fun x hx => ⟨fun t ht => hC t ((hw x hx).1 t ht), Nat.le_trans (hw x hx).2.1 h, (hw x hx).2.2⟩
/-- each box that is no input has a wire from an earlier place -/
def EaB (bt : List (Key × Dt)) (row : List Str) : Prop := ∀ (j : Nat) kv f (ws : List Wi), bt[j]? = some kv → kv.2 = .tup [.str "op", .str f, .lst (ws.map wD)] → ∃ x ∈ ws, ∃ i, i < j ∧ row[i]? = some x.1
/-- the parts of a drawn net -/
structure DrawnC (C : Dt → Bool) (M : Nat) (ops : Nat) (bt ot : List (Key × Dt)) (row : List Str) : Prop where
  nd : row.Nodup
  nm : ∀ n ∈ row, n ∈ bxN
  len : 2 ≤ row.length ∧ row.length ≤ 2 + ops
  ks : bt.map (·.1) = row.map Sum.inr
  bx : ∀ (i : Nat) kv, bt[i]? = some kv → DBoxC C M row i kv.2
  os : ot.map (·.1) = [.inr "o"] ∨ ot.map (·.1) = [.inr "o", .inr "r"]
  ows : ∀ kv ∈ ot, ∃ x : Wi, kv.2 = wD x ∧ x.1 ∈ row ∧ (∀ t ∈ x.2, C t = true) ∧ x.2.length ≤ 2
  ea : EaB bt row
abbrev DrawnM := DrawnC cs
abbrev Drawn := DrawnM 8
theorem DrawnC.imp {C C' : Dt → Bool} (hC : ∀ t, C t = true → C' t = true) {M M' : Nat} (h : M ≤ M') {ops : Nat} {bt ot : List (Key × Dt)} {row : List Str} (d : DrawnC C M ops bt ot row) : DrawnC C' M' ops bt ot row := ⟨d.nd, d.nm, d.len, d.ks, fun i kv e => (d.bx i kv e).mono hC h, d.os, fun kv hkv => by
  obtain ⟨x, h1, h2, h3, h4⟩ := d.ows kv hkv
  exact ⟨x, h1, h2, fun t ht => hC t (h3 t ht), h4⟩, d.ea⟩
theorem DrawnM.mono {M M' : Nat} (h : M ≤ M') {ops : Nat} {bt ot : List (Key × Dt)} {row : List Str} (d : DrawnM M ops bt ot row) : DrawnM M' ops bt ot row := DrawnC.imp (fun _ z => z) h d
theorem DrawnM.ow {M ops : Nat} {bt ot : List (Key × Dt)} {row : List Str} (D : DrawnM M ops bt ot row) : ∀ kv ∈ ot, ∃ x : Wi, kv.2 = wD x ∧ x.1 ∈ row ∧ (∀ t ∈ x.2, cg 7 t = true) ∧ x.2.length ≤ 8 := fun kv h => by
  obtain ⟨x, h1, h2, h3, h4⟩ := D.ows kv h
  exact ⟨x, h1, h2, fun t ht => cs_cg (h3 t ht), by omega⟩
theorem ctD_mid (ds : List Dt) (a b : Nat) (hb : b ≤ ds.length) (ha : a ≤ b) : ctD ds (some (a : Int)) (some (b : Int)) = (ds.drop a).take (b - a) := by
  unfold ctD
  rw [HT.sIx_nat, HT.sIx_nat, Nat.min_eq_left hb, Nat.min_eq_left (by omega)]
theorem ops_ar : ∀ x ∈ ([.str "f", .str "g", .str "h", .str "k", .str "f", .str "m", .str "w"] : List Dt), ∃ f n, x = Dt.str f ∧ (f, n) ∈ arT := by
  intro x hx
  simp only [List.mem_cons, List.not_mem_nil, or_false] at hx
  rcases hx with e | e | e | e | e | e | e
  · exact ⟨"f", 2, e, by decide⟩
  · exact ⟨"g", 1, e, by decide⟩
  · exact ⟨"h", 2, e, by decide⟩
  · exact ⟨"k", 1, e, by decide⟩
  · exact ⟨"f", 2, e, by decide⟩
  · exact ⟨"m", 3, e, by decide⟩
  · exact ⟨"w", 4, e, by decide⟩
theorem perm_wD {ys : List Dt} {l : List Wi} (h : ys.Perm (l.map wD)) : ∃ l' : List Wi, l'.Perm l ∧ ys = l'.map wD := by
  refine ⟨ys.filterMap unW, ?_, ?_⟩
  · have := h.filterMap unW
    rw [List.filterMap_map] at this
    have e : (unW ∘ wD) = some := rfl
    rw [e, List.filterMap_some] at this
    exact this
  · have all : ∀ y ∈ ys, ∃ z, y = wD z := fun y hy => by
      obtain ⟨z, _, e⟩ := List.mem_map.mp (h.mem_iff.mp hy)
      exact ⟨z, e.symm⟩
    clear h
    induction ys with
    | nil => rfl
    | cons y ys ih =>
      obtain ⟨z, rfl⟩ := all y (List.mem_cons_self ..)
      rw [List.filterMap_cons, show unW (wD z) = some z from rfl]
      simp only [List.map_cons]
      rw [← ih fun y hy => all y (List.mem_cons_of_mem _ hy)]
/-- the next name of a row is new -/
theorem row_new {row : List Str} {i : Nat} {n : Str} {bt : List (Key × Dt)} {v : Dt} (nd : row.Nodup) (hn : row[i]? = some n) (hk : bt.map (·.1) = (row.take i).map Sum.inr) : dpt bt (.inr n) v = bt ++ [(.inr n, v)] ∧ (dpt bt (.inr n) v).map (·.1) = (row.take (i + 1)).map Sum.inr := by
  have hne : (.inr n : Key) ∉ bt.map (·.1) := by
    rw [hk]
    intro z
    obtain ⟨m, hm, e⟩ := List.mem_map.mp z
    cases e
    obtain ⟨j, hj⟩ := List.mem_iff_getElem?.mp hm
    rw [List.getElem?_take] at hj
    split at hj
    · rename_i hlt
      have := (List.getElem?_inj (List.getElem?_eq_some_iff.mp hj).1 nd).mp (hj.trans hn.symm)
      omega
    · cases hj
  have e := dpt_new (v := v) hne
  refine ⟨e, ?_⟩
  rw [e, List.map_append, hk, List.take_add_one, hn, List.map_append]
  rfl
section
variable {P : Program} {w : World} {K : PySem.W.Frag} {mg : Str → Option Value} {base : Heap}
def RDrawnC : Rd3 := fun ds P _ => ∃ (ops most : Nat) (pl : Bool), ds = [.st, .int ops, .int most, .bl pl] ∧ (1 ≤ ops ∧ ops ≤ 7 ∧ 1 ≤ most ∧ most ≤ 8) ∧ ∀ bt ot row, DrawnC (csP pl) most ops bt ot row → P (.tup [.dct bt, .dct ot])
theorem w_drawnC (T : Txt P K mg) : FnOk P w K mg base CX0 8 T.a_drawn T.d_drawn ["_law_state", "_law_ops", "_law_most", "_law_is_plain"] (spW K true RDrawnC) := by
  refine T.F_drawn.ok sc_drawn (fun vs H Q E h => w_len 4 h fun _ _ _ ⟨_, _, _, e, _⟩ => by rw [e]; rfl) (fun cdv A outer s H vs Q E hr h => ⟨_, PSs.nox (pss_cons (ps_par3 (i := 4) (j := 5) (l := 6) rfl sc_drawn.nd rfl rfl rfl (by decide) (by decide) (by decide) rfl rfl rfl (pa_cons (pe_call (w_names T) (hr.mono (by omega)) rfl T.g_names T.F_names.kp T.b_names .nil pass0 (pa_cons (pv 0) (pa_cons (pe_op (uAdd K) pe_int (pv 1)) pa_nil))) (pa_cons pe_dnewK (pa_cons pe_dnewK pa_nil))) rfl rfl) (pss_cons (ps_set (i := 7) sc_drawn.nd rfl (Or.inl rfl) (pe_op (uAdd K) pe_int (pe_call (w_take T) (hr.mono (by omega)) rfl T.g_take T.F_take.kp T.b_take .nil pass0 (pa_cons (pv 0) (pa_cons pe_int pa_nil))))) (pss_cons (ps_for PassesOwn.never rfl (pi_zipK (K := K) rfl T.n_zip (pa_cons (pe_slice (uSlA K) (pv 4) po_none (po_some (pv 7))) (pa_cons (pe_lst (pa_cons pe_str (pa_cons (pe_call (w_one T) (hr.mono (by omega)) rfl T.g_one T.F_one.kp T.b_one .nil pass0 (pa_cons (pv 0) (pa_cons (pe_lst (pa_cons pe_str (pa_cons pe_str (pa_cons pe_str pa_nil)))) pa_nil))) pa_nil))) pa_nil))) (pg_tupK (K := K) (n := 2) rfl (pgs_cons (pg_name (i := 8) sc_drawn.nd rfl (Or.inl rfl)) (pgs_cons (pg_name (i := 9) sc_drawn.nd rfl (Or.inl rfl)) pgs_nil))) (pss_one (ps_dput (hu_of hr) (pv 5) (pv 8) (pe_tup (pa_cons pe_str (pa_cons (pv 9) pa_nil))) rfl))) (pss_cons (ps_set (i := 10) sc_drawn.nd rfl (Or.inl rfl) (pe_op (uAdd K) (pe_slice (uSlA K) (pv 4) po_none (po_some (pv 7))) (pe_slice (uSlA K) (pv 4) (po_some pe_int) (po_some (pe_op (uAdd K) pe_int (pe_call (w_take T) (hr.mono (by omega)) rfl T.g_take T.F_take.kp T.b_take .nil pass0 (pa_cons (pv 0) (pa_cons (pv 1) pa_nil)))))))) (pss_cons (ps_for PassesOwn.never rfl (pi_range2 rfl T.n_range (pa_cons (pv 7) (pa_cons (pe_callB (u_lenA K) rfl T.n_len (by decide +kernel) (pa_cons (pv 10) pa_nil)) pa_nil))) (pg_name (i := 11) sc_drawn.nd rfl (Or.inl rfl)) (pss_cons (ps_set (i := 12) sc_drawn.nd rfl (Or.inl rfl) (pe_op (uAdd K) (pe_lst (pa_cons pe_str (pa_cons pe_str (pa_cons pe_str (pa_cons pe_str (pa_cons pe_str pa_nil)))))) (pe_op uMul (pe_lst (pa_cons pe_str (pa_cons pe_str pa_nil))) (pe_callTy uC_int rfl T.n_int (by decide +kernel) (pa_cons (pe_cmpR (uEq K (hu64 hr)) (pv 11) (pv 7) (nomark _)) pa_nil))))) (pss_cons (ps_par (i := 13) (j := 14) rfl sc_drawn.nd rfl rfl (by decide) rfl rfl (pa_cons (pe_call (w_one T) (hr.mono (by omega)) rfl T.g_one T.F_one.kp T.b_one .nil pass0 (pa_cons (pv 0) (pa_cons (pv 12) pa_nil))) (pa_cons (pe_lst pa_nil) pa_nil)) rfl rfl) (pss_cons (ps_for PassesOwn.never rfl (pi_range1 rfl T.n_range (pa_cons (pe_call (w_arity T) (hr.mono (by omega)) rfl T.g_arity T.F_arity.kp T.b_arity .nil pass0 (pa_cons (pv 13) pa_nil)) pa_nil)) (pg_name (i := 15) sc_drawn.nd rfl (Or.inl rfl)) (pss_cons (ps_set (i := 16) sc_drawn.nd rfl (Or.inl rfl) (pe_ifExp (PW.pt (pw_or (pt_cmpR (uEq K (hu64 hr)) (pv 15) pe_int (nomark _)) (pw_or1 (pt_cmpR op_gt (pe_call (w_take T) (hr.mono (by omega)) rfl T.g_take T.F_take.kp T.b_take .nil pass0 (pa_cons (pv 0) (pa_cons pe_int pa_nil))) pe_int (nomark _))))) (pe_call (w_take T) (hr.mono (by omega)) rfl T.g_take T.F_take.kp T.b_take .nil pass0 (pa_cons (pv 0) (pa_cons (pv 11) pa_nil))) (pe_call (w_take T) (hr.mono (by omega)) rfl T.g_take T.F_take.kp T.b_take .nil pass0 (pa_cons (pv 0) (pa_cons (pe_callB (u_lenA K) rfl T.n_len (by decide +kernel) (pa_cons (pv 10) pa_nil)) pa_nil))))) (pss_cons (ps_set (i := 17) sc_drawn.nd rfl (Or.inl rfl) (pe_op (uAdd K) (pe_call (w_one T) (hr.mono (by omega)) rfl T.g_one T.F_one.kp T.b_one .nil pass0 (pa_cons (pv 0) (pa_cons (pe_lst (pa_cons pe_int (pa_cons pe_int (pa_cons pe_int (pa_cons pe_int pa_nil))))) pa_nil))) (pe_callTy uC_int rfl T.n_int (by decide +kernel) (pa_cons (pe_cmpR op_ge (pv 16) (pv 11) (nomark _)) pa_nil)))) (pss_one (ps_expr (pe_bm PySem.F.plainAttrs_list PySem.F.slot_list_append PySem.F.type_list_append mt_append (pv 14) (pa_cons (pe_tup (pa_cons (pe_ix (uIxA K (hu64 hr)) (pv 10) (pv 16) (fun _ _ => rfl)) (pa_cons (pe_call (w_starts T) (hr.mono (by omega)) rfl T.g_starts T.F_starts.kp T.b_starts .nil pass0 (pa_cons (pv 0) (pa_cons (pe_callB (u_minA K rfl) rfl T.n_min (by decide +kernel) (pa_cons (pe_lst (pa_cons (pv 17) (pa_cons (pv 2) pa_nil))) pa_nil)) (pa_cons (pv 3) pa_nil)))) pa_nil))) pa_nil))))))) (pss_one (ps_dput (hu_of hr) (pv 5) (pe_ix (uIxA K (hu64 hr)) (pv 10) (pv 11) (fun _ _ => rfl)) (pe_tup (pa_cons pe_str (pa_cons (pv 13) (pa_cons (pe_call (w_mix T) (hr.mono (by omega)) rfl T.g_mix T.F_mix.kp T.b_mix .nil pass0 (pa_cons (pv 0) (pa_cons (pv 14) pa_nil))) pa_nil)))) rfl)))))) (pss_cons (ps_for PassesOwn.never rfl (pi_anyK (K := K) (pe_slice (uSlA K) (pe_lst (pa_cons pe_str (pa_cons pe_str pa_nil))) po_none (po_some (pe_op (uAdd K) pe_int (pe_call (w_take T) (hr.mono (by omega)) rfl T.g_take T.F_take.kp T.b_take .nil pass0 (pa_cons (pv 0) (pa_cons pe_int pa_nil))))))) (pg_name (i := 8) sc_drawn.nd rfl (Or.inl rfl)) (pss_cons (ps_set (i := 17) sc_drawn.nd rfl (Or.inl rfl) (pe_call (w_one T) (hr.mono (by omega)) rfl T.g_one T.F_one.kp T.b_one .nil pass0 (pa_cons (pv 0) (pa_cons (pe_lst (pa_cons pe_int (pa_cons pe_int (pa_cons pe_int (pa_cons pe_int (pa_cons pe_int pa_nil)))))) pa_nil)))) (pss_cons (ps_set (i := 16) sc_drawn.nd rfl (Or.inl rfl) (pe_op op_sub (pe_op op_sub (pe_callB (u_lenA K) rfl T.n_len (by decide +kernel) (pa_cons (pv 10) pa_nil)) pe_int) (pe_call (w_take T) (hr.mono (by omega)) rfl T.g_take T.F_take.kp T.b_take .nil pass0 (pa_cons (pv 0) (pa_cons pe_int pa_nil))))) (pss_one (ps_dput (hu_of hr) (pv 6) (pv 8) (pe_tup (pa_cons (pe_ix (uIxA K (hu64 hr)) (pv 10) (pv 16) (fun _ _ => rfl)) (pa_cons (pe_call (w_starts T) (hr.mono (by omega)) rfl T.g_starts T.F_starts.kp T.b_starts .nil pass0 (pa_cons (pv 0) (pa_cons (pv 17) (pa_cons (pv 3) pa_nil)))) pa_nil))) rfl))))) (pss_one (ps_ret (pe_tup (pa_cons (pv 5) (pa_cons (pv 6) pa_nil))))))))))), w_start h 18 rfl fun ds P xe ⟨ops, most, pl, e, ⟨ho1, ho2, hm1, hm2⟩, p⟩ => ?_⟩)
  subst e
  refine ⟨Nat.le_of_ble_eq_true rfl, ?_⟩
  refine wd_seq (wd_par3 (by decide) (by decide) (et_call0 nolk (ea_cons (et_var rfl (ea_cons (et_op rop_add (et_int (et_var rfl (ea_nil ⟨2 + ops, by congr 2, by omega, fun ns hnd hlen hin => ef_dnew (ef_dnew ?_)⟩)))))))))
  refine wd_seq (wd_asg (et_op rop_add (et_int (et_call0 nolk (ea_cons (et_var rfl (ea_cons (et_int (ea_nil ⟨2, rfl, by decide, fun d hd0 hd1 => ?_⟩)))))))))
  obtain ⟨dn, rfl⟩ := Int.eq_ofNat_of_zero_le hd0
  have hdn : dn ≤ 1 := by omega
  show Wd _ _ _ _
  refine wd_seq (wd_for (ei_zip (ea_cons (et_sl (et_var rfl (eo_none (eo_some (et_var rfl ⟨_, rfl, ?_⟩))))))))
  have ec : (1 : Int) + (dn : Int) = ((1 + dn : Nat) : Int) := by omega
  show Ea _ _ _ _
  rw [ec, ctD_to, ← List.map_take]
  refine ea_cons (Ef.et (ef_lst (ea_cons (et_str (ea_cons (et_call0 nolk (ea_cons (et_var rfl (ea_cons (Ef.et (ef_lst ?_)))))))))))
  nofun
  refine ⟨_, [.str "x", .str "y", .str "y"], rfl, rfl, ⟨by decide, by decide⟩, fun j z0 hz0 => ?_⟩
  obtain ⟨z1, rfl, hz1⟩ : ∃ z1, z0 = .str z1 ∧ (z1 = "x" ∨ z1 = "y") := by
    have := List.mem_of_getElem? hz0
    rcases List.mem_cons.mp this with e | this
    · exact ⟨_, e, .inl rfl⟩
    rcases List.mem_cons.mp this with e | this
    · exact ⟨_, e, .inr rfl⟩
    · exact ⟨_, List.mem_singleton.mp this, .inr rfl⟩
  nofun
  have hzz : z1 = "x" ∨ z1 = "y" := hz1
  refine ⟨_, _, rfl, fun i e => ∃ (bt : List (Key × Dt)) (s8 s9 : Sl), e = [.v .st, .v (.int ops), .v (.int most), .v (.bl pl), .v (.lst (ns.map .str)), .own (.dct bt), .own (.dct []), .v (.int ((1 + dn : Nat) : Int)), s8, s9, .no, .no, .no, .no, .no, .no, .no, .no] ∧ bt.map (·.1) = (ns.take i).map Sum.inr ∧
    (∀ kv ∈ bt, ∃ z, kv.2 = .tup [.str "in", .str z] ∧ (z = "x" ∨ z = "y")), ⟨[], .no, .no, rfl, rfl, fun kv h => by cases h⟩, ?_, ?_⟩
  · rintro i d e hi ⟨bt, s8, s9, rfl, hk, hz⟩
    obtain ⟨n, z, rfl, hn, hzx⟩ : ∃ n z, d = .tup [.str n, .str z] ∧ ns[i]? = some n ∧ (z = "x" ∨ z = "y") := by
      unfold zipD at hi
      rw [List.getElem?_zipWith] at hi
      cases e1 : (List.map Dt.str (List.take (1 + dn) ns))[i]? with
      | none => rw [e1] at hi; cases hi
      | some a =>
        cases e2 : [Dt.str "x", Dt.str z1][i]? with
        | none => rw [e1, e2] at hi; cases hi
        | some b =>
          rw [e1, e2] at hi
          cases hi
          rw [List.getElem?_map] at e1
          cases e3 : (ns.take (1 + dn))[i]? with
          | none => rw [e3] at e1; cases e1
          | some n =>
            rw [e3] at e1
            cases e1
            have en : ns[i]? = some n := by
              rw [List.getElem?_take] at e3
              split at e3
              · exact e3
              · cases e3
            match i, e2, en with
            | 0, e2, en => cases e2; exact ⟨n, _, rfl, en, .inl rfl⟩
            | 1, e2, en => cases e2; exact ⟨n, _, rfl, en, hzz⟩
            | i + 2, e2, _ => simp at e2
    have hbl : bt.length ≤ 9 := by
      have := congrArg List.length hk
      rw [List.length_map, List.length_map, List.length_take] at this
      omega
    obtain ⟨en, ek⟩ := row_new (v := .tup [.str "in", .str z]) hnd hn hk
    refine (tv_tup (tgs_cons (tv_name (tgs_cons (tv_name (tgs_nil ?_)))))).tg
    refine wd_dput ?_
    nofun
    refine ⟨_, rfl, ?_⟩
    nofun
    refine ⟨_, rfl, ?_, _, _, _, rfl, ?_, ?_⟩
    · simp only [Zz]
      omega
    · exact ek
    · intro kv hkv
      rw [show dpt bt (Sum.inr n) (.tup [.str "in", .str z]) = _ from en] at hkv
      rcases List.mem_append.mp hkv with hkv | hkv
      · exact hz kv hkv
      · rw [List.mem_singleton.mp hkv]
        exact ⟨z, rfl, hzx⟩
  · rintro e ⟨bt, s8, s9, rfl, hk, hz⟩
    have hzl : (zipD ((ns.take (1 + dn)).map Dt.str) [.str "x", .str z1]).length = 1 + dn := by
      unfold zipD
      rw [List.length_zipWith, List.length_map, List.length_take]
      simp only [List.length_cons, List.length_nil]
      omega
    rw [hzl] at hk
    refine wd_seq (wd_asg (et_op rop_add (et_sl (et_var rfl (eo_none (eo_some (et_var rfl ⟨_, rfl, ?_⟩)))))))
    show Et _ _ _ _
    rw [ctD_to, ← List.map_take]
    nofun
    refine ⟨(ops : Int), rfl, ⟨by omega, by omega⟩, fun d2 hd20 hd21 => ?_⟩
    obtain ⟨d2, rfl⟩ := Int.eq_ofNat_of_zero_le hd20
    have hd2 : d2 < ops := by omega
    refine eI (slL ?_)
    have hsl : ctD (ns.map Dt.str) (some 2) (some ((3 : Int) + (d2 : Int))) = ((ns.drop 2).take (1 + d2)).map Dt.str := by
      rw [show (3 : Int) + (d2 : Int) = ((3 + d2 : Nat) : Int) by omega, show (2 : Int) = ((2 : Nat) : Int) from rfl, ctD_mid _ 2 (3 + d2) (by rw [List.length_map]; omega) (by omega), List.map_take, List.map_drop]
      congr 1
      omega
    rw [hsl]
    obtain ⟨row, hrow⟩ : ∃ row, row = ns.take (1 + dn) ++ (ns.drop 2).take (1 + d2) := ⟨_, rfl⟩
    have hrl : row.length = 2 + dn + d2 := by
      rw [hrow, List.length_append, List.length_take, List.length_take, List.length_drop]
      omega
    have hrt : row.take (1 + dn) = ns.take (1 + dn) := by
      rw [hrow, List.take_append_of_le_length (by rw [List.length_take]; omega), List.take_take, Nat.min_self]
    have hrs : row.Sublist ns := by
      rw [hrow]
      have e2 : ns = ns.take 2 ++ ns.drop 2 := (List.take_append_drop 2 ns).symm
      conv => rhs; rw [e2]
      refine List.Sublist.append ?_ (List.take_sublist ..)
      have : ns.take (1 + dn) = (ns.take 2).take (1 + dn) := by rw [List.take_take, Nat.min_eq_left (by omega)]
      rw [this]
      exact List.take_sublist ..
    have hrn : row.Nodup := hnd.sublist hrs
    have hri : ∀ n ∈ row, n ∈ bxN := fun n hn => hin n (hrs.subset hn)
    refine ⟨by simp only [List.length_map, List.length_take, List.length_drop, Zz]; omega, ?_⟩
    rw [← List.map_append, ← hrow]
    have hrI : ∀ {j : Nat}, j < row.length → ∃ n, row[j]? = some n := fun {j} h => ⟨row[j], by simp [h]⟩
    show Wd _ _ _ _
    refine wd_seq (wd_for (ei_rng2 ?_))
    ac_rfl
    refine ⟨_, _, rfl, ?_, ?_⟩
    · rw [List.length_map]; simp only [Zz]; omega
    have hrg : (rngD ((1 + dn : Nat) : Int) ((((row.map Dt.str).length : Nat) : Int) - ((1 + dn : Nat) : Int)).toNat).length = 1 + d2 := by
      rw [rngD_len, List.length_map]; omega
    refine ⟨fun i e => ∃ (bt : List (Key × Dt)) (s8 s9 s11 s12 s13 s14 s15 s16 s17 : Sl), e = [.v .st, .v (.int ops), .v (.int most), .v (.bl pl), .v (.lst (ns.map .str)), .own (.dct bt), .own (.dct []), .v (.int ((1 + dn : Nat) : Int)), s8, s9, .v (.lst (row.map .str)), s11, s12, s13, s14, s15, s16, s17] ∧
      bt.map (·.1) = (row.take (1 + dn + i)).map Sum.inr ∧ (∀ (j : Nat) kv, bt[j]? = some kv → DBoxC (csP pl) most row j kv.2) ∧ EaB bt row, ?_, ?_, ?_⟩
    · refine ⟨bt, s8, s9, .no, .no, .no, .no, .no, .no, .no, rfl, by rw [Nat.add_zero, hrt]; exact hk, fun j kv hj => ?_, fun j kv f ws hj e2 => ?_⟩
      · obtain ⟨z, e, hz'⟩ := hz kv (List.mem_of_getElem? hj)
        rw [e]
        exact .inp z hz'
      · obtain ⟨z, e, hz'⟩ := hz kv (List.mem_of_getElem? hj)
        rw [e] at e2
        simp only [Dt.tup.injEq, List.cons.injEq, Dt.str.injEq] at e2
        exact absurd e2.1 (by decide)
    · rintro i d e hi ⟨bt, s8, s9, s11, s12, s13, s14, s15, s16, s17, rfl, hk, hb, hea⟩
      obtain ⟨rfl, hlt⟩ := rngD_get hi
      have hi2 : i < 1 + d2 := by rw [List.length_map] at hlt; omega
      obtain ⟨at_, hat⟩ : ∃ at_ : Nat, at_ = 1 + dn + i := ⟨_, rfl⟩
      have eat : ((1 + dn : Nat) : Int) + (i : Int) = (at_ : Int) := by omega
      have hatl : at_ < row.length := by omega
      rw [eat]
      refine tg_name (wd_seq (wd_asg (et_op rop_add (Ef.et (ef_lst ?_)))))
      ac_rfl
      refine Ef.et (ef_lst ?_)
      ac_rfl
      generalize decide ((at_ : Int) = ((1 + dn : Nat) : Int)) = bb
      refine ⟨by cases bb <;> decide, by cases bb <;> decide, by cases bb <;> decide, ?_, ?_⟩
      · cases bb <;> exact Nat.le_of_ble_eq_true rfl
      obtain ⟨ol, hol⟩ : ∃ ol, ol = [Dt.str "f", .str "g", .str "h", .str "k", .str "f"] ++ (List.replicate (if bb = true then (1 : Int) else 0).toNat [Dt.str "m", .str "w"]).flatten := ⟨_, rfl⟩
      have hol1 : 0 < ol.length ∧ ol.length ≤ 20000 := by rw [hol]; cases bb <;> decide
      have hol2 : ∀ x ∈ ol, ∃ f n, x = .str f ∧ (f, n) ∈ arT := by
        intro x hx
        refine ops_ar x ?_
        rw [hol] at hx
        cases bb with
        | true => exact hx
        | false =>
          have hx : x ∈ ([.str "f", .str "g", .str "h", .str "k", .str "f"] : List Dt) := by simpa using hx
          exact List.mem_append_left [.str "m", .str "w"] hx
      show Wd _ _ _ _
      rw [← hol]
      refine wd_seq (wd_parVO (et_call0 nolk (ea_cons (et_var rfl (ea_cons (et_var rfl (ea_nil ⟨_, ol, rfl, rfl, hol1, fun j0 x0 hx0 => ?_⟩)))))))
      obtain ⟨f, n, rfl, hfa⟩ := hol2 x0 (List.mem_of_getElem? hx0)
      refine ef_lst (ea_nil ⟨Nat.zero_le _, ?_⟩)
      refine wd_seq (wd_for (ei_rng1 ?_))
      ac_rfl
      refine ⟨f, n, rfl, hfa, ?_⟩
      have hn : 1 ≤ n ∧ n ≤ 4 := by
        have := List.all_eq_true.mp (show (arT.all fun p => decide (1 ≤ p.2 ∧ p.2 ≤ 4)) = true by decide) _ hfa
        exact of_decide_eq_true this
      refine ea_nil ⟨n, rfl, by simp only [Zz]; omega, by omega, ?_⟩
      refine ⟨fun k e => ∃ (ws : List Wi) (s12 s15 s16 s17 : Sl), e = [.v .st, .v (.int ops), .v (.int most), .v (.bl pl), .v (.lst (ns.map .str)), .own (.dct bt), .own (.dct []), .v (.int ((1 + dn : Nat) : Int)), s8, s9, .v (.lst (row.map .str)), .v (.int (at_ : Int)), s12, .v (.str f), .own (.lst (ws.map wD)), s15, s16, s17] ∧
        ws.length = k ∧ (∀ x ∈ ws, wireAtC (csP pl) most row at_ x) ∧ (0 < k → ∃ x ∈ ws, ∃ i, i < at_ ∧ row[i]? = some x.1), ?_, ?_, ?_⟩
      · exact ⟨[], _, _, _, _, rfl, rfl, (fun x hx => by cases hx), fun h => absurd h (Nat.lt_irrefl _)⟩
      · rintro k d e hk2 ⟨ws, s12, s15, s16, s17, rfl, hwl, hww, hwe⟩
        obtain ⟨rfl, hkn⟩ := rngD_get hk2
        refine tg_name ?_
        have hto : ∀ {m : Int} {Pk : Dt → Prop}, 0 < m → m ≤ row.length → (∀ to_ : Nat, to_ < row.length → (to_ : Int) < m → Pk (.int (to_ : Int))) → RTake [.st, .int m] Pk fun _ _ => False := fun {m Pk} h1 h2 h3 => by
          refine ⟨m, rfl, ⟨h1, by omega⟩, fun d h4 h5 => ?_⟩
          obtain ⟨to_, rfl⟩ := Int.eq_ofNat_of_zero_le h4
          exact h3 to_ (by omega) (by omega)
        refine wd_cut (Mid := fun e => ∃ to_ : Nat, to_ < row.length ∧ (k = 0 → to_ < at_) ∧ e = [.v .st, .v (.int ops), .v (.int most), .v (.bl pl), .v (.lst (ns.map .str)), .own (.dct bt), .own (.dct []), .v (.int ((1 + dn : Nat) : Int)), s8, s9, .v (.lst (row.map .str)), .v (.int (at_ : Int)), s12, .v (.str f), .own (.lst (ws.map wD)), .v (.int (0 + (k : Int))), .v (.int (to_ : Int)), s17]) (wd_asg ?_) ?_
        · ac_rfl
          refine Wv.b2 (fun h0 => ?_) fun h0 => ?_
          · ac_rfl
            exact hto (by omega) (by omega) fun to_ h hm => ⟨to_, h, fun _ => by omega, rfl⟩
          · ac_rfl
            refine ⟨3, rfl, by decide, fun k3 _ _ => ?_⟩
            ac_rfl
            refine Wv.b2 (fun h1 => ?_) fun h1 => ?_
            · ac_rfl
              exact hto (by omega) (by omega) fun to_ h hm => ⟨to_, h, fun _ => by omega, rfl⟩
            · ac_rfl
              rw [List.length_map]
              exact hto (by omega) (by omega) fun to_ h hm => ⟨to_, h, fun z => by subst z; exact absurd h0 (by decide), rfl⟩
        · rintro e ⟨to_, hto2, hto0, rfl⟩
          refine wd_seq (wd_asg ?_)
          ac_rfl
          refine Ef.et (ef_lst ?_)
          ac_rfl
          refine ⟨_, [.int 0, .int 0, .int 1, .int 2], rfl, rfl, ⟨by decide, by decide⟩, fun jh xh hxh => ?_⟩
          obtain ⟨hh, rfl, hh0, hh2⟩ : ∃ hh : Nat, xh = .int (hh : Int) ∧ 0 ≤ hh ∧ hh ≤ 2 := by
            have := List.mem_of_getElem? hxh
            simp only [List.mem_cons, List.not_mem_nil, or_false] at this
            rcases this with e | e | e | e <;> subst e
            · exact ⟨0, rfl, by omega, by omega⟩
            · exact ⟨0, rfl, by omega, by omega⟩
            · exact ⟨1, rfl, by omega, by omega⟩
            · exact ⟨2, rfl, by omega, by omega⟩
          ac_rfl
          obtain ⟨held, hheld⟩ : ∃ held : Nat, (held : Int) = (hh : Int) + (if decide ((at_ : Int) ≤ (to_ : Int)) = true then 1 else 0) := by
            split
            · exact ⟨hh + 1, by omega⟩
            · exact ⟨hh, by omega⟩
          have hhl : held ≤ 3 ∧ (held = 0 → to_ < at_) := by
            split at hheld
            · omega
            · rename_i hn2
              have : ¬ (at_ : Int) ≤ (to_ : Int) := fun z => hn2 (decide_eq_true z)
              omega
          rw [← hheld]
          obtain ⟨nm, hnm⟩ := hrI hto2
          refine wd_app rfl (et_tup (ea_cons (et_op rop_ix ?_)))
          ac_rfl
          refine fxN (i := to_) rfl (by rw [List.getElem?_map, hnm]; rfl) ?_
          ac_rfl
          refine Ef.et (ef_lst ?_)
          ac_rfl
          refine ⟨[(held : Int), (most : Int)], rfl, Nat.zero_lt_succ _, fun m hm hml => ?_⟩
          obtain ⟨mn, rfl, hmm, hmn⟩ : ∃ mn : Nat, m = (mn : Int) ∧ mn ≤ most ∧ mn ≤ 3 ∧ (mn = 0 → held = 0) := by
            have h1 := hml _ (List.mem_cons_self ..)
            have h2 := hml _ (List.mem_cons_of_mem _ (List.mem_cons_self ..))
            simp only [List.mem_cons, List.not_mem_nil, or_false] at hm
            rcases hm with e | e
            · exact ⟨held, e, by omega, by omega, id⟩
            · exact ⟨most, e, Nat.le_refl _, by omega, by omega⟩
          ac_rfl
          refine ⟨mn, pl, rfl, by omega, fun ts htl htg => ea_nil ⟨Nat.le_of_ble_eq_true rfl, _, rfl, by simp only [List.length_map, Zz]; omega, ws ++ [(nm, ts)], s12, .v (.int (0 + (k : Int))), .v (.int (to_ : Int)), .v (.int (held : Int)), ?_, by rw [List.length_append, hwl]; rfl, fun x hx => ?_, fun _ => ?_⟩⟩
          · rw [List.map_append]
            rfl
          · rcases List.mem_append.mp hx with hx | hx
            · exact hww x hx
            · rw [List.mem_singleton.mp hx]
              exact ⟨htg, by show ts.length ≤ most; omega, to_, hnm, fun z => hhl.2 (hmn.2 (by rw [← htl]; show ts.length = 0; have z : ts = [] := z; rw [z]; rfl))⟩
          · cases Nat.eq_zero_or_pos k with
            | inl h => exact ⟨(nm, ts), List.mem_append_right _ (List.mem_singleton.mpr rfl), to_, hto0 h, hnm⟩
            | inr h =>
              obtain ⟨x, hx, h2⟩ := hwe h
              exact ⟨x, List.mem_append_left _ hx, h2⟩
      · rintro e ⟨ws, s12, s15, s16, s17, rfl, hwl, hww, hwe⟩
        rw [rngD_len] at hwl hwe
        obtain ⟨xe, hxe, ie, hie, hre⟩ := hwe (by omega)
        clear hwe
        obtain ⟨nm, hnm⟩ := hrI hatl
        have hbl : bt.length ≤ 9 := by
          have := congrArg List.length hk
          rw [List.length_map, List.length_map, List.length_take] at this
          omega
        have hwo : ∀ x ∈ ws, PyData.strOk x.1 = true := fun x hx => by
          obtain ⟨_, _, j, hj, _⟩ := hww x hx
          have := hri _ (List.mem_of_getElem? hj)
          exact List.all_eq_true.mp (show (bxN.all PyData.strOk) = true by decide +kernel) _ this
        refine wd_dput (et_tup (ea_cons (et_str (ea_cons (et_var rfl (ea_cons (et_call0 nolk (ea_cons (et_var rfl (ea_cons (et_own rfl (ea_nil ?_))))))))))))
        refine ⟨_, ws.map wD, rfl, rfl, ⟨by rw [List.length_map]; omega, dats_of fun y hy => ?_, ?_⟩, fun ys hys => ?_⟩
        · obtain ⟨x, hx, rfl⟩ := List.mem_map.mp hy
          exact wD_dat (hwo x hx) fun t ht => cs_cg (csP_cs ((hww x hx).1 t ht))
        · have : deps (ws.map wD) ≤ 9 := deps_le fun y hy => by
            obtain ⟨x, hx, rfl⟩ := List.mem_map.mp hy
            exact wD_dep fun t ht => cs_cg (csP_cs ((hww x hx).1 t ht))
          omega
        obtain ⟨ws2, hws2, rfl⟩ := perm_wD hys
        refine ea_nil ⟨Nat.le_of_ble_eq_true rfl, _, rfl, et_op rop_ix ?_⟩
        ac_rfl
        refine fxN (i := at_) rfl (by rw [List.getElem?_map, hnm]; rfl) ?_
        obtain ⟨en, ek⟩ := row_new (v := .tup [.str "op", .str f, .lst (ws2.map wD)]) hrn hnm (by rw [hat]; exact hk)
        refine ⟨bt, rfl, by simp only [Zz]; omega, _, _, _, _, _, _, _, _, _, _, rfl, by rw [ek, hat]; rfl, fun j kv hj => ?_, fun j kv f2 ws3 hj e2 => ?_⟩
        rotate_left
        · rw [en, List.getElem?_append] at hj
          split at hj
          · exact hea j kv f2 ws3 hj e2
          · rename_i hge
            have hbl2 : bt.length = at_ := by
              have := congrArg List.length hk
              rw [List.length_map, List.length_map, List.length_take] at this
              omega
            have hj0 : j = at_ := by
              have := (List.getElem?_eq_some_iff.mp hj).1
              simp at this
              omega
            subst hj0
            rw [hbl2, Nat.sub_self] at hj
            cases hj
            simp only [Dt.tup.injEq, List.cons.injEq, Dt.str.injEq, Dt.lst.injEq, and_true, true_and] at e2
            have e3 : ws2 = ws3 := by
              have := congrArg (List.filterMap unW) e2.2
              rw [List.filterMap_map, List.filterMap_map, show (unW ∘ wD) = some from rfl, List.filterMap_some, List.filterMap_some] at this
              exact this
            rw [← e3]
            exact ⟨xe, hws2.mem_iff.mpr hxe, ie, hie, hre⟩
        rw [en] at hj
        rw [List.getElem?_append] at hj
        split at hj
        · exact hb j kv hj
        · rename_i hge
          have hbl2 : bt.length = at_ := by
            have := congrArg List.length hk
            rw [List.length_map, List.length_map, List.length_take] at this
            omega
          have hj0 : j = at_ := by
            have := (List.getElem?_eq_some_iff.mp hj).1
            simp at this
            omega
          subst hj0
          rw [hbl2, Nat.sub_self] at hj
          cases hj
          refine .op f ws2 ?_ fun x hx => hww x (hws2.mem_iff.mp hx)
          have e1 : (ws2.length : Int) = n := by rw [hws2.length_eq]; omega
          rw [e1]
          exact hfa
    · rintro e ⟨bt, s8, s9, s11, s12, s13, s14, s15, s16, s17, rfl, hk, hb, hea⟩
      rw [hrg, show 1 + dn + (1 + d2) = row.length by omega, List.take_length] at hk
      refine wd_seq (wd_for (ei_seq (et_sl (Ef.et (ef_lst ?_)))))
      ac_rfl
      refine ⟨2, rfl, by decide, fun no h0 h1 => ?_⟩
      obtain ⟨no, rfl⟩ := Int.eq_ofNat_of_zero_le h0
      ac_rfl
      have eno : (1 : Int) + (no : Int) = ((1 + no : Nat) : Int) := by omega
      rw [eno, ctD_to]
      refine ⟨fun i e => ∃ (ot : List (Key × Dt)) (s8 s9 s11 s12 s13 s14 s15 s16 s17 : Sl), e = [.v .st, .v (.int ops), .v (.int most), .v (.bl pl), .v (.lst (ns.map .str)), .own (.dct bt), .own (.dct ot), .v (.int ((1 + dn : Nat) : Int)), s8, s9, .v (.lst (row.map .str)), s11, s12, s13, s14, s15, s16, s17] ∧
        ot.map (·.1) = (([("o" : Str), "r"] : List Str).take i).map Sum.inr ∧ ∀ kv ∈ ot, ∃ x : Wi, kv.2 = wD x ∧ x.1 ∈ row ∧ (∀ t ∈ x.2, csP pl t = true) ∧ x.2.length ≤ 2, ?_, ?_, ?_⟩
      · exact ⟨[], _, _, _, _, _, _, _, _, _, rfl, rfl, fun kv h => by cases h⟩
      · rintro i d e hi ⟨ot, s8, s9, s11, s12, s13, s14, s15, s16, s17, rfl, ho, hw⟩
        obtain ⟨n, rfl, hni⟩ : ∃ n, d = .str n ∧ ([("o" : Str), "r"] : List Str)[i]? = some n := by
          rw [List.getElem?_take] at hi
          split at hi
          · match i, hi with
            | 0, hi => cases hi; exact ⟨_, rfl, rfl⟩
            | 1, hi => cases hi; exact ⟨_, rfl, rfl⟩
            | i + 2, hi => simp at hi
          · cases hi
        have hol : ot.length ≤ 2 := by
          have := congrArg List.length ho
          rw [List.length_map, List.length_map, List.length_take] at this
          simp only [List.length_cons, List.length_nil] at this
          omega
        refine tg_name (wd_seq (wd_asg ?_))
        ac_rfl
        refine Ef.et (ef_lst ?_)
        ac_rfl
        refine ⟨_, [.int 0, .int 0, .int 0, .int 1, .int 2], rfl, rfl, ⟨by decide, by decide⟩, fun jh xh hxh => ?_⟩
        obtain ⟨hh, rfl, hh2⟩ : ∃ hh : Nat, xh = .int (hh : Int) ∧ hh ≤ 2 := by
          have := List.mem_of_getElem? hxh
          simp only [List.mem_cons, List.not_mem_nil, or_false] at this
          rcases this with e | e | e | e | e <;> subst e
          · exact ⟨0, rfl, by omega⟩
          · exact ⟨0, rfl, by omega⟩
          · exact ⟨0, rfl, by omega⟩
          · exact ⟨1, rfl, by omega⟩
          · exact ⟨2, rfl, by omega⟩
        refine wd_seq (wd_asg ?_)
        ac_rfl
        refine ⟨2, rfl, by decide, fun t2 h0 h1 => ?_⟩
        ac_rfl
        obtain ⟨to_, hto⟩ : ∃ to_ : Nat, (to_ : Int) = (((row.map Dt.str).length : Nat) : Int) - 1 - t2 := by
          rw [List.length_map]
          exact ⟨(row.length - 1 - t2).toNat, by omega⟩
        rw [← hto]
        rw [List.length_map] at hto
        obtain ⟨nm, hnm⟩ := hrI (j := to_) (by omega)
        refine fxN (i := to_) rfl (by rw [List.getElem?_map, hnm]; rfl) ?_
        ac_rfl
        refine ⟨hh, pl, rfl, by omega, fun ts htl htg => ea_nil ⟨Nat.le_of_ble_eq_true rfl, _, rfl, ?_⟩⟩
        ac_rfl
        obtain ⟨en, ek⟩ := row_new (v := wD (nm, ts)) (show ([("o" : Str), "r"] : List Str).Nodup by decide) hni ho
        refine ⟨by simp only [Zz]; omega, _, _, _, _, _, _, _, _, _, _, rfl, ek, fun kv hkv => ?_⟩
        rw [show dpt ot (.inr n) (.tup [.str nm, .lst ts]) = _ from en] at hkv
        rcases List.mem_append.mp hkv with hkv | hkv
        · exact hw kv hkv
        · rw [List.mem_singleton.mp hkv]
          exact ⟨(nm, ts), rfl, List.mem_of_getElem? hnm, htg, by show ts.length ≤ 2; omega⟩
      · rintro e ⟨ot, s8, s9, s11, s12, s13, s14, s15, s16, s17, rfl, ho, hw⟩
        refine wd_ret (et_tup (ea_cons (et_own rfl (ea_cons (et_own rfl (ea_nil ⟨Nat.le_of_ble_eq_true rfl, ?_⟩))))))
        refine p bt ot row ⟨hrn, hri, ⟨by omega, by omega⟩, hk, hb, ?_, hw, hea⟩
        have e5 : (List.take (1 + no) [Dt.str "o", .str "r"]).length = 1 + no := by
          rw [List.length_take]
          simp only [List.length_cons, List.length_nil]
          omega
        rw [e5] at ho
        match no, h1 with
        | 0, _ => exact .inl ho
        | 1, _ => exact .inr ho
theorem spW_mono {lk : Bool} {R R' : Rd3} (h : ∀ ds Pd xe, R' ds Pd xe → R ds Pd xe) {vs : List V} {H : Hp} {Q : VK} {E : XK} (s : spW K lk R' vs H Q E) : spW K lk R vs H Q E := by
  obtain ⟨so, cc, O, ds, Pd, xe, h1, h2, h3, h4⟩ := s
  exact ⟨so, cc, O, ds, Pd, xe, h1, h2, h _ _ _ h3, h4⟩
/-- the same, start words not told -/
def RDrawnM : Rd3 := fun ds P _ => ∃ (ops most : Nat) (pl : Bool), ds = [.st, .int ops, .int most, .bl pl] ∧ (1 ≤ ops ∧ ops ≤ 7 ∧ 1 ≤ most ∧ most ≤ 8) ∧ ∀ bt ot row, DrawnM most ops bt ot row → P (.tup [.dct bt, .dct ot])
theorem rdrawnC {ds : List Dt} {Pd : Dt → Prop} {xe : Addr → List (Str × Dt) → Prop} (h : RDrawnM ds Pd xe) : RDrawnC ds Pd xe := by
  obtain ⟨ops, most, pl, e, h1, p⟩ := h
  exact ⟨ops, most, pl, e, h1, fun bt ot row D => p bt ot row (DrawnC.imp (fun _ z => csP_cs z) (Nat.le_refl _) D)⟩
theorem w_drawnM (T : Txt P K mg) : FnOk P w K mg base CX0 8 T.a_drawn T.d_drawn ["_law_state", "_law_ops", "_law_most", "_law_is_plain"] (spW K true RDrawnM) := (w_drawnC (base := base) (w := w) T).imp fun _ _ _ _ h => spW_mono (fun _ _ _ => rdrawnC) h
end
end Lw
namespace Lw
open PySem PySem.Spec PyProof.Rows L2 Evl Wv
/-! ### parts of nets that pass all checks, as they are kept -/
inductive GBox (ns : List Str) (ar : Str → Nat) : Dt → Prop where
  | inp (z : Str) (h : wordD (.str z) = true) : GBox ns ar (.tup [.str "in", .str z])
  | op (f : Str) (ws : List Wi) (hf : wordD (.str f) = true) (hl : 1 ≤ ws.length ∧ ws.length ≤ 4) (ha : ar f = ws.length) (hw : ∀ x ∈ ws, x.1 ∈ ns ∧ ∀ t ∈ x.2, cg 7 t = true) : GBox ns ar (.tup [.str "op", .str f, .lst (ws.map wD)])
structure GB (bt : List (Key × Dt)) (ns : List Str) (ar : Str → Nat) : Prop where
  ks : bt.map (·.1) = ns.map Sum.inr
  nd : ns.Nodup
  wd : ∀ n ∈ ns, wordD (.str n) = true
  bx : ∀ kv ∈ bt, GBox ns ar kv.2
  sz : ns.length < 5000
structure GO (ot : List (Key × Dt)) (ns os : List Str) : Prop where
  ks : ot.map (·.1) = os.map Sum.inr
  nd : os.Nodup
  wd : ∀ n ∈ os, wordD (.str n) = true
  sz : os.length ≤ 4
  ow : ∀ kv ∈ ot, ∃ x : Wi, kv.2 = wD x ∧ x.1 ∈ ns ∧ ∀ t ∈ x.2, cg 7 t = true
theorem inr_nd {ns : List Str} (h : ns.Nodup) : (ns.map (Sum.inr : Str → Key)).Nodup := by
  unfold List.Nodup at h ⊢
  rw [List.pairwise_map]
  exact h.imp fun h z => h (Sum.inr.inj z)
/-- the value at a place, found by its key -/
theorem dlk_nd : ∀ {kvs : List (Key × Dt)}, (kvs.map (·.1)).Nodup → ∀ {k : Key} {v : Dt}, (k, v) ∈ kvs → dlk kvs k = some v
  | [], _, _, _, h => by cases h
  | p :: r, nd, k, v, h => by
    rw [List.map_cons, List.nodup_cons] at nd
    rcases List.mem_cons.mp h with e | h
    · rw [dlk_pos (by rw [← e]), ← e]
    · rw [dlk_neg, dlk_nd nd.2 h]
      intro z
      exact nd.1 (by rw [z]; exact List.mem_map_of_mem (f := (·.1)) h)
theorem dlk_ks {kvs : List (Key × Dt)} {ns : List Str} (h : kvs.map (·.1) = ns.map Sum.inr) {n : Str} : (dlk kvs (.inr n)).isSome = decide (n ∈ ns) := by
  cases e : dlk kvs (.inr n) with
  | some t =>
    have := List.mem_map_of_mem (f := (·.1)) (dlk_mem e)
    rw [h] at this
    obtain ⟨m, hm, q⟩ := List.mem_map.mp this
    cases q
    exact (decide_eq_true hm).symm
  | none =>
    refine (decide_eq_false fun hn => ?_).symm
    have : (.inr n : Key) ∈ kvs.map (·.1) := by rw [h]; exact List.mem_map_of_mem hn
    obtain ⟨kv, hkv, q⟩ := List.mem_map.mp this
    obtain ⟨t, ht⟩ := dlk_some hkv
    rw [q, e] at ht
    cases ht
theorem ks_map {kvs : List (Key × Dt)} {ns : List Str} (h : kvs.map (·.1) = ns.map Sum.inr) : (kvs.map fun kv => kDt kv.1) = ns.map Dt.str := by
  have : (kvs.map fun kv => kDt kv.1) = (kvs.map (·.1)).map kDt := by rw [List.map_map]; rfl
  rw [this, h, List.map_map]
  rfl
theorem nmF_fold : ∀ (ns : List Str) (a : List (Key × Dt)) (n : Str), (dlk ((ns.map Dt.str).foldl (fun a k => dpt a (keyD k) (.bl true)) a) (.inr n)).isSome = (decide (n ∈ ns) || (dlk a (.inr n)).isSome)
  | [], a, n => by simp
  | m :: ns, a, n => by
    rw [List.map_cons, List.foldl_cons, nmF_fold ns, show keyD (.str m) = (.inr m : Key) from rfl, dlk_dpt]
    by_cases e : n = m
    · subst e; simp
    · have e' : ¬ (.inr n : Key) = .inr m := fun z => e (Sum.inr.inj z)
      rw [if_neg e']
      simp [e]
theorem nmF_ok {kvs : List (Key × Dt)} {ns : List Str} (h : kvs.map (·.1) = ns.map Sum.inr) (hw : ∀ n ∈ ns, wordD (.str n) = true) {n : Str} : (dlk (nmF kvs) (.inr n)).isSome = decide (n ∈ ns) := by
  unfold nmF
  rw [ks_map h, List.filter_eq_self.mpr (fun d hd => by
    obtain ⟨m, hm, rfl⟩ := List.mem_map.mp hd
    exact hw m hm), nmF_fold]
  show (decide (n ∈ ns) || false) = _
  rw [Bool.or_false]
theorem wire_ok {kvs : List (Key × Dt)} {x : Wi} (h1 : (dlk kvs (.inr x.1)).isSome = true) (h2 : ∀ t ∈ x.2, cg 7 t = true) : wireF kvs (wD x) = true ∧ aswF (wD x) = wD x := by
  refine ⟨?_, ?_⟩
  · show (inK kvs (.str x.1) && allG (.lst x.2)) = true
    show ((dlk kvs (.inr x.1)).isSome && x.2.all (grF 9)) = true
    rw [h1, Bool.true_and, List.all_eq_true]
    exact fun t ht => cg_gr (cg_mono (h2 t ht) (by decide))
  · show Dt.tup [.str x.1, .lst (x.2.map (asF 9))] = Dt.tup [.str x.1, .lst x.2]
    have e : x.2.map (asF 9) = x.2 := by
      have := List.map_congr_left (l := x.2) (f := asF 9) (g := id) fun t ht => cg_as (cg_mono (h2 t ht) (by decide))
      rw [this, List.map_id]
    rw [e]
theorem box_ok {kvs ws : List (Key × Dt)} {ns : List Str} {ar : Str → Nat} {d : Dt} (h : GBox ns ar d) (hk : ∀ n ∈ ns, (dlk kvs (.inr n)).isSome = true) (hws : ∀ f t, dlk ws (.inr f) = some t → t = .int (ar f : Nat)) :
    boxF kvs ws d = true ∧ asbF d = d ∧ ∀ f t, dlk (wsF ws d) (.inr f) = some t → t = .int (ar f : Nat) := by
  cases h with
  | inp z hz =>
    refine ⟨?_, rfl, hws⟩
    show (true && (wordD (.str z) && eqF (.str "in") (.str "in"))) = true
    rw [hz]
    rfl
  | op f l hf hl ha hw =>
    have hwo : ∀ x ∈ l, wireF kvs (wD x) = true ∧ aswF (wD x) = wD x := fun x hx => wire_ok (hk _ (hw x hx).1) (hw x hx).2
    refine ⟨?_, ?_, ?_⟩
    · show (true && (wordD (.str f) && (eqF (.str "op") (.str "op") && (decide (1 ≤ (l.map wD).length ∧ (l.map wD).length ≤ 4) && ((l.map wD).all (wireF kvs) && eqF ((dlk ws (.inr f)).getD (.int (l.map wD).length)) (.int (l.map wD).length)))))) = true
      rw [hf, decide_eq_true (by rw [List.length_map]; exact hl), List.all_eq_true.mpr (fun y hy => by
        obtain ⟨x, hx, rfl⟩ := List.mem_map.mp hy
        exact (hwo x hx).1)]
      have e : eqF ((dlk ws (.inr f)).getD (.int (l.map wD).length)) (.int (l.map wD).length) = true := by
        have e2 : (dlk ws (.inr f)).getD (.int (l.map wD).length) = .int (l.map wD).length := by
          cases q : dlk ws (.inr f) with
          | none => rfl
          | some t => rw [hws f t q, ha, List.length_map]; rfl
        rw [e2]
        exact beq_self_eq_true _
      rw [e]
      rfl
    · show Dt.tup [.str "op", .str f, .lst ((l.map wD).map aswF)] = _
      have e : (l.map wD).map aswF = l.map wD := by
        have := List.map_congr_left (l := l.map wD) (f := aswF) (g := id) fun y hy => by
          obtain ⟨x, hx, rfl⟩ := List.mem_map.mp hy
          exact (hwo x hx).2
        rw [this, List.map_id]
      rw [e]
    · intro g t hg
      change dlk (dpt ws (.inr f) (.int (l.map wD).length)) (.inr g) = some t at hg
      rw [dlk_dpt] at hg
      by_cases e : (.inr g : Key) = .inr f
      · rw [if_pos e] at hg
        rw [← Option.some.inj hg, Sum.inr.inj e, ha, List.length_map]
      · rw [if_neg e] at hg
        exact hws g t hg
theorem chkB_go {nm bt : List (Key × Dt)} {ns : List Str} {ar : Str → Nat} (G : GB bt ns ar) (hk : ∀ n ∈ ns, (dlk nm (.inr n)).isSome = true) : ∀ (post pre ws : List (Key × Dt)), bt = pre ++ post → (∀ f t, dlk ws (.inr f) = some t → t = .int (ar f : Nat)) →
    chkB nm bt (post.map fun kv => kDt kv.1) pre ws = .inr bt
  | [], pre, ws, e, _ => by
    rw [e, List.append_nil]
    rfl
  | kv :: post, pre, ws, e, hws => by
    have hmem : kv ∈ bt := by rw [e]; exact List.mem_append_right _ (List.mem_cons_self ..)
    have hks : kv.1 ∈ ns.map (Sum.inr : Str → Key) := by rw [← G.ks]; exact List.mem_map_of_mem hmem
    obtain ⟨n, hn, hkn⟩ := List.mem_map.mp hks
    obtain ⟨k, v⟩ := kv
    cases hkn
    have hnd : (bt.map (·.1)).Nodup := by rw [G.ks]; exact inr_nd G.nd
    have hv := dlk_nd hnd hmem
    obtain ⟨b1, b2, b3⟩ := box_ok (G.bx _ hmem) hk hws
    show (if wordD (.str n) = true ∧ boxF nm ws ((dlk bt (.inr n)).getD .non) = true then
      chkB nm bt (post.map fun kv => kDt kv.1) (dpt pre (.inr n) (asbF ((dlk bt (.inr n)).getD .non))) (wsF ws (asbF ((dlk bt (.inr n)).getD .non)))
      else .inl (.str n)) = _
    rw [hv]
    show (if wordD (.str n) = true ∧ boxF nm ws v = true then chkB nm bt (post.map fun kv => kDt kv.1) (dpt pre (.inr n) (asbF v)) (wsF ws (asbF v)) else .inl (.str n)) = _
    rw [if_pos ⟨G.wd n hn, b1⟩, b2]
    have hnew : (.inr n : Key) ∉ pre.map (·.1) := fun z => by
      rw [e, List.map_append, List.nodup_append] at hnd
      exact hnd.2.2 _ z _ (by rw [List.map_cons]; exact List.mem_cons_self ..) rfl
    show chkB nm bt (post.map fun kv => kDt kv.1) (dpt pre (.inr n) v) (wsF ws v) = .inr bt
    rw [dpt_new hnew]
    exact chkB_go G hk post _ _ (by rw [e, List.append_assoc]; rfl) b3
theorem chkB_ok {bt : List (Key × Dt)} {ns : List Str} {ar : Str → Nat} (G : GB bt ns ar) : chkB (nmF bt) bt (bt.map fun kv => kDt kv.1) [] [] = .inr bt :=
  chkB_go G (fun n hn => by rw [nmF_ok G.ks G.wd]; exact decide_eq_true hn) bt [] [] rfl fun f t h => by cases h
theorem gb_len {bt : List (Key × Dt)} {ns : List Str} (h : bt.map (·.1) = ns.map Sum.inr) : bt.length = ns.length := by
  have := congrArg List.length h
  simpa using this
theorem GBox.dep {ns : List Str} {ar : Str → Nat} {d : Dt} (h : GBox ns ar d) (hns : ∀ n ∈ ns, wordD (.str n) = true) : dat d = true ∧ dep d ≤ 11 := by
  cases h with
  | inp z hz =>
    refine ⟨?_, ?_⟩
    · unfold dat dats dats dats dat
      rw [(word_ok hz).1, show PyData.strOk "in" = true from by decide +kernel]
      rfl
    · rw [dep_tup]; have : deps [.str "in", .str z] ≤ 0 := deps_le fun y hy => by
        rcases List.mem_cons.mp hy with e | hy
        · rw [e]; unfold Wv.dep; omega
        · rw [List.mem_singleton.mp hy]; unfold Wv.dep; omega
      omega
  | op f l hf hl ha hw =>
    refine ⟨?_, ?_⟩
    · unfold dat dats dats dats dats
      rw [show dat (.str "op") = true from by unfold dat; decide +kernel, show dat (.str f) = true from by unfold dat; exact (word_ok hf).1, show dat (.lst (l.map wD)) = true from by
        unfold dat
        exact dats_of fun y hy => by
          obtain ⟨x, hx, rfl⟩ := List.mem_map.mp hy
          exact wD_dat (word_ok (hns _ (hw x hx).1)).1 (hw x hx).2]
      rfl
    · rw [dep_tup]
      have : deps [.str "op", .str f, .lst (l.map wD)] ≤ 10 := deps_le fun y hy => by
        simp only [List.mem_cons, List.not_mem_nil, or_false] at hy
        rcases hy with e | e | e
        · rw [e]; unfold Wv.dep; omega
        · rw [e]; unfold Wv.dep; omega
        · rw [e, dep_lst]
          have : deps (l.map wD) ≤ 9 := deps_le fun y hy => by
            obtain ⟨x, hx, rfl⟩ := List.mem_map.mp hy
            exact wD_dep (hw x hx).2
          omega
      omega
end Lw
namespace Lw
open PySem PySem.Spec PyProof.Rows L2 Evl Wv
/-! ### Net(boxes, outputs) of good parts -/
def wsOf : Dt → List Wi
  | .tup [_, _, .lst l] => l.filterMap unW
  | _ => []
def bxOf (bt : List (Key × Dt)) (n : Str) : List Wi := match dlk bt (.inr n) with
  | some b => wsOf b
  | none => []
theorem unW_map (ws : List Wi) : (ws.map wD).filterMap unW = ws := by
  rw [List.filterMap_map, show (unW ∘ wD) = some from rfl, List.filterMap_some]
theorem GBox.kb {ns : List Str} {ar : Str → Nat} {d : Dt} (h : GBox ns ar d) : KB d (wsOf d) ∧ ∀ x ∈ wsOf d, x.1 ∈ ns ∧ ∀ t ∈ x.2, cg 7 t = true := by
  cases h with
  | inp z hz => exact ⟨.inp z, fun x hx => by cases hx⟩
  | op f l hf hl ha hw =>
    have e : wsOf (.tup [.str "op", .str f, .lst (l.map wD)]) = l := unW_map l
    rw [e]
    exact ⟨.op f l fun x hx => ⟨dats_cg (hw x hx).2, by have := deps_cg (hw x hx).2; omega⟩, hw⟩
theorem GB.at {bt : List (Key × Dt)} {ns : List Str} {ar : Str → Nat} (G : GB bt ns ar) {n : Str} (hn : n ∈ ns) : ∃ b, dlk bt (.inr n) = some b ∧ GBox ns ar b := by
  have : (dlk bt (.inr n)).isSome = true := by rw [dlk_ks G.ks]; exact decide_eq_true hn
  obtain ⟨b, hb⟩ := Option.isSome_iff_exists.mp this
  exact ⟨b, hb, G.bx _ (dlk_mem hb)⟩
theorem GB.boxT {bt : List (Key × Dt)} {ns : List Str} {ar : Str → Nat} (G : GB bt ns ar) : BoxT bt ns (bxOf bt) := by
  refine ⟨G.ks, G.nd, fun n hn => ?_, by have := G.sz; simp only [Zz]; omega, fun n hn => ?_⟩
  · obtain ⟨b, hb, g⟩ := G.at hn
    refine ⟨b, hb, ?_⟩
    unfold bxOf
    rw [hb]
    exact g.kb.1
  · have := (word_ok (G.wd n hn)).2.1
    simp only [Zz]; omega
theorem GB.pre {bt : List (Key × Dt)} {ns : List Str} {ar : Str → Nat} (G : GB bt ns ar) : PreB 12 bt := by
  refine ⟨by rw [gb_len G.ks]; have := G.sz; simp only [Zz]; omega, fun kv hkv z hz => ?_, fun kv hkv => ?_⟩
  · have : kv.1 ∈ ns.map (Sum.inr : Str → Key) := by rw [← G.ks]; exact List.mem_map_of_mem hkv
    obtain ⟨n, hn, e⟩ := List.mem_map.mp this
    rw [hz] at e
    cases e
    have := (word_ok (G.wd _ hn)).2.1
    simp only [Zz]; omega
  · obtain ⟨h1, h2⟩ := (G.bx kv hkv).dep G.wd
    exact ⟨pur_dat _ h1, by omega⟩
theorem len_sub {α : Type} [BEq α] [LawfulBEq α] : ∀ {l l' : List α}, l.Nodup → (∀ a ∈ l, a ∈ l') → l.length ≤ l'.length
  | [], _, _, _ => Nat.zero_le _
  | a :: l, l', nd, h => by
    rw [List.nodup_cons] at nd
    have ha := h a (List.mem_cons_self ..)
    have := len_sub (l' := l'.erase a) nd.2 fun b hb => (List.mem_erase_of_ne fun z => nd.1 (by rw [← z]; exact hb)).mpr (h b (List.mem_cons_of_mem _ hb))
    rw [List.length_erase_of_mem ha] at this
    have := List.length_pos_of_mem ha
    rw [List.length_cons]
    omega
theorem ord_all {ns found : List Str} {bx : Str → List Wi} (nd : ns.Nodup) (rk : Str → Nat) (hr : ∀ n ∈ ns, ∀ x ∈ bx n, x.2 = [] → x.1 ∈ ns ∧ rk x.1 < rk n) (o : Ord ns bx found) : (∀ n ∈ ns, n ∈ found) ∧ found.length = ns.length := by
  have all : ∀ m : Nat, ∀ n ∈ ns, rk n < m → n ∈ found := by
    intro m
    induction m with
    | zero => intro n _ h; omega
    | succ m ih =>
      intro n hn hm
      refine o.cl n hn fun x hx hz => ?_
      obtain ⟨h1, h2⟩ := hr n hn x hx hz
      exact ih x.1 h1 (by omega)
  have h1 : ∀ n ∈ ns, n ∈ found := fun n hn => all _ n hn (Nat.lt_succ_self _)
  exact ⟨h1, Nat.le_antisymm (len_sub o.nd o.sub) (len_sub nd h1)⟩
theorem chkO_go {ot bt : List (Key × Dt)} {ns os : List Str} (G : GO ot ns os) (hk : ∀ n ∈ ns, (dlk bt (.inr n)).isSome = true) : ∀ (post pre : List (Key × Dt)), ot = pre ++ post → chkO bt ot (post.map fun kv => kDt kv.1) pre = .inr ot
  | [], pre, e => by rw [e, List.append_nil]; rfl
  | kv :: post, pre, e => by
    have hmem : kv ∈ ot := by rw [e]; exact List.mem_append_right _ (List.mem_cons_self ..)
    have hks : kv.1 ∈ os.map (Sum.inr : Str → Key) := by rw [← G.ks]; exact List.mem_map_of_mem hmem
    obtain ⟨n, hn, hkn⟩ := List.mem_map.mp hks
    obtain ⟨k, v⟩ := kv
    cases hkn
    have hnd : (ot.map (·.1)).Nodup := by rw [G.ks]; exact inr_nd G.nd
    have hv := dlk_nd hnd hmem
    obtain ⟨x, ex, hx1, hx2⟩ := G.ow _ hmem
    have ex : v = wD x := ex
    subst ex
    obtain ⟨b1, b2⟩ := wire_ok (hk _ hx1) hx2
    have hl : ot.length ≤ 4 := by rw [gb_len G.ks]; exact G.sz
    have hl2 : ¬ pre.length = 4 := by rw [e, List.length_append, List.length_cons] at hl; omega
    show (if ¬ pre.length = 4 ∧ wordD (.str n) = true ∧ wireF bt ((dlk ot (.inr n)).getD .non) = true then chkO bt ot (post.map fun kv => kDt kv.1) (dpt pre (.inr n) (aswF ((dlk ot (.inr n)).getD .non))) else .inl (.str n)) = _
    rw [hv]
    show (if ¬ pre.length = 4 ∧ wordD (.str n) = true ∧ wireF bt (wD x) = true then chkO bt ot (post.map fun kv => kDt kv.1) (dpt pre (.inr n) (aswF (wD x))) else .inl (.str n)) = _
    rw [if_pos ⟨hl2, G.wd n hn, b1⟩, b2]
    have hnew : (.inr n : Key) ∉ pre.map (·.1) := fun z => by
      rw [e, List.map_append, List.nodup_append] at hnd
      exact hnd.2.2 _ z _ (by rw [List.map_cons]; exact List.mem_cons_self ..) rfl
    rw [dpt_new hnew]
    exact chkO_go G hk post _ (by rw [e, List.append_assoc]; rfl)
theorem GO.pre {ot : List (Key × Dt)} {ns os : List Str} (G : GO ot ns os) (hns : ∀ n ∈ ns, wordD (.str n) = true) : PreB 10 ot := by
  refine ⟨by rw [gb_len G.ks]; have := G.sz; simp only [Zz]; omega, fun kv hkv z hz => ?_, fun kv hkv => ?_⟩
  · have : kv.1 ∈ os.map (Sum.inr : Str → Key) := by rw [← G.ks]; exact List.mem_map_of_mem hkv
    obtain ⟨n, hn, e⟩ := List.mem_map.mp this
    rw [hz] at e
    cases e
    have := (word_ok (G.wd _ hn)).2.1
    simp only [Zz]; omega
  · obtain ⟨x, ex, hx1, hx2⟩ := G.ow kv hkv
    rw [ex]
    exact ⟨pur_dat _ (wD_dat (word_ok (hns _ hx1)).1 hx2), by have := wD_dep hx2; omega⟩
/-- all of a good net -/
structure GN (bt ot : List (Key × Dt)) (ns os : List Str) (ar rk : Str → Nat) : Prop extends GB bt ns ar where
  go : GO ot ns os
  rk : ∀ n ∈ ns, ∀ x ∈ bxOf bt n, x.2 = [] → rk x.1 < rk n
theorem GB.wire {bt : List (Key × Dt)} {ns : List Str} {ar : Str → Nat} (G : GB bt ns ar) {n : Str} (hn : n ∈ ns) {x : Wi} (hx : x ∈ bxOf bt n) : x.1 ∈ ns ∧ ∀ t ∈ x.2, cg 7 t = true := by
  obtain ⟨b, hb, g⟩ := G.at hn
  unfold bxOf at hx
  rw [hb] at hx
  exact g.kb.2 x hx
section
variable {P : Program} {w : World} {K : PySem.W.Frag} {mg : Str → Option Value} {base : Heap}
theorem rn_good {T : Txt P K mg} {bt ot : List (Key × Dt)} {ns os : List Str} {ar rk : Str → Nat} {Pd : Dt → Prop} {xe : Addr → List (Str × Dt) → Prop} (G : GN bt ot ns os ar rk) (h : ∀ found, Ord ns (bxOf bt) found → (∀ n ∈ ns, n ∈ found) → Pd (netD T bt ot found)) :
    RN T [.dct bt, .dct ot] Pd xe := by
  refine ⟨_, _, rfl, .dct bt, rfl, .inl ⟨bt, rfl, G.toGB.pre, ?_⟩⟩
  rw [chkB_ok G.toGB]
  refine ⟨bt, ns, bxOf bt, rfl, G.toGB.boxT, .dct ot, bt, rfl, .inl ⟨ot, rfl, G.go.pre G.wd, ?_⟩⟩
  rw [show chkO bt ot (ot.map fun kv => kDt kv.1) [] = .inr ot from chkO_go G.go (fun n hn => by rw [dlk_ks G.ks]; exact decide_eq_true hn) ot [] rfl]
  refine ⟨ot, rfl, fun found ho => ?_⟩
  have := ord_all G.nd rk (fun n hn x hx hz => ⟨(G.toGB.wire hn hx).1, G.rk n hn x hx hz⟩) ho
  exact ⟨this.2, h found ho this.1⟩
end
end Lw
namespace Lw
open PySem PySem.Spec PyProof.Rows L2 Evl Wv
/-! ### drawn nets are good -/
def arF (f : Str) : Nat := ((arT.lookup f).getD 0).toNat
theorem arF_ok {f : Str} {n : Nat} (h : (f, (n : Int)) ∈ arT) : arF f = n ∧ wordD (.str f) = true ∧ 1 ≤ n ∧ n ≤ 4 := by
  have := List.all_eq_true.mp (show (arT.all fun p => decide (arF p.1 = p.2.toNat ∧ wordD (.str p.1) = true ∧ 1 ≤ p.2.toNat ∧ p.2.toNat ≤ 4)) = true by decide +kernel) _ h
  exact of_decide_eq_true this
theorem bxN_word {n : Str} (h : n ∈ bxN) : wordD (.str n) = true :=
  List.all_eq_true.mp (show (bxN.all fun n => wordD (.str n)) = true by decide +kernel) _ h
def osOf (ot : List (Key × Dt)) : List Str := if ot.length = 1 then ["o"] else ["o", "r"]
theorem idx_nd {row : List Str} (nd : row.Nodup) {i : Nat} {n : Str} (h : row[i]? = some n) : row.idxOf n = i := by
  obtain ⟨hi, e⟩ := List.getElem?_eq_some_iff.mp h
  rw [← e]
  exact nd.idxOf_getElem i hi
theorem DrawnM.good {ops : Nat} {bt ot : List (Key × Dt)} {row : List Str} (D : Drawn ops bt ot row) (ho : ops ≤ 20) : GN bt ot row (osOf ot) arF (row.idxOf ·) := by
  have hw : ∀ n ∈ row, wordD (.str n) = true := fun n hn => bxN_word (D.nm n hn)
  have bx1 : ∀ {i : Nat} {d : Dt}, DBox row i d → GBox row arF d := fun {i d} h => by
    cases h with
    | inp z hz => exact .inp z (by rcases hz with rfl | rfl <;> decide +kernel)
    | op f ws ha hw2 =>
      obtain ⟨h1, h2, h3⟩ := arF_ok ha
      exact .op f ws h2 h3 h1 fun x hx => by
        obtain ⟨h4, _, j, h5, _⟩ := hw2 x hx
        exact ⟨List.mem_of_getElem? h5, fun t ht => cs_cg (h4 t ht)⟩
  have gb : GB bt row arF := ⟨D.ks, D.nd, hw, fun kv hkv => by
    obtain ⟨i, hi⟩ := List.mem_iff_getElem?.mp hkv
    exact bx1 (D.bx i kv hi), by have := D.len; omega⟩
  have ho2 : ot.map (·.1) = (osOf ot).map Sum.inr := by
    rcases D.os with h | h
    · have e : ot.length = 1 := by have := congrArg List.length h; simpa using this
      unfold osOf
      rw [if_pos e, h]
      rfl
    · have e : ¬ ot.length = 1 := by have := congrArg List.length h; simp at this; omega
      unfold osOf
      rw [if_neg e, h]
      rfl
  refine ⟨gb, ⟨ho2, ?_, ?_, ?_, fun kv hkv => ?_⟩, fun n hn x hx hz => ?_⟩
  · unfold osOf; split <;> decide
  · intro n hn
    have : n ∈ (["o", "r"] : List Str) := by
      unfold osOf at hn
      split at hn
      · rw [List.mem_singleton.mp hn]; exact List.mem_cons_self ..
      · exact hn
    exact List.all_eq_true.mp (show ((["o", "r"] : List Str).all fun n => wordD (.str n)) = true by decide +kernel) _ this
  · unfold osOf; split <;> decide
  · obtain ⟨x, h1, h2, h3, _⟩ := D.ow kv hkv
    exact ⟨x, h1, h2, h3⟩
  · obtain ⟨b, hb, _⟩ := gb.at hn
    unfold bxOf at hx
    rw [hb] at hx
    obtain ⟨i, hi⟩ := List.mem_iff_getElem?.mp (dlk_mem hb)
    have hrow : row[i]? = some n := by
      have := congrArg (·[i]?) D.ks
      simp only [List.getElem?_map, hi] at this
      cases q : row[i]? with
      | none => rw [q] at this; cases this
      | some m => rw [q] at this; cases this; rfl
    have hd := D.bx i _ hi
    have hd : DBox row i b := hd
    show row.idxOf x.1 < row.idxOf n
    rw [idx_nd D.nd hrow]
    cases hd with
    | inp z hz => cases hx
    | op f ws ha hw2 =>
      have hx : x ∈ (ws.map wD).filterMap unW := hx
      rw [unW_map] at hx
      obtain ⟨_, _, j, h5, h6⟩ := hw2 x hx
      rw [idx_nd D.nd h5]
      exact h6 hz
end Lw
namespace Lw
open PySem PySem.Spec PyProof.Rows L2 Evl Wv
/-! ### equal nets -/
/-- a dict of data that may be compared -/
def cmpK (ks : List (Key × Dt)) : Prop := ∀ kv ∈ ks, shk kv.2
theorem shk_of {d : Dt} (h : dat d = true) (hd : dep d < 50) : shk d := ⟨shp_of h (by omega), by have := dep_toP d; omega⟩
theorem eqK_refl {ks : List (Key × Dt)} (nd : (ks.map (·.1)).Nodup) (h : ∀ kv ∈ ks, dat kv.2 = true) : eqK ks ks = true := by
  unfold eqK hitD
  rw [beq_self_eq_true, Bool.true_and, List.all_eq_true]
  intro p hp
  rw [dlk_nd nd (v := p.2) hp]
  exact SeqAt.eqv_refl _ (can_dat _ (h p hp))
theorem GB.cmp {bt : List (Key × Dt)} {ns : List Str} {ar : Str → Nat} (G : GB bt ns ar) : cmpK bt ∧ eqK bt bt = true := by
  have h : ∀ kv ∈ bt, dat kv.2 = true ∧ dep kv.2 ≤ 11 := fun kv hkv => (G.bx kv hkv).dep G.wd
  exact ⟨fun kv hkv => shk_of (h kv hkv).1 (by have := (h kv hkv).2; omega), eqK_refl (by rw [G.ks]; exact inr_nd G.nd) fun kv hkv => (h kv hkv).1⟩
theorem GO.cmp {ot : List (Key × Dt)} {ns os : List Str} (G : GO ot ns os) (hw : ∀ n ∈ ns, wordD (.str n) = true) : cmpK ot ∧ eqK ot ot = true := by
  have h : ∀ kv ∈ ot, dat kv.2 = true ∧ dep kv.2 ≤ 9 := fun kv hkv => by
    obtain ⟨x, e, h1, h2⟩ := G.ow kv hkv
    rw [e]
    exact ⟨wD_dat (word_ok (hw _ h1)).1 h2, wD_dep h2⟩
  exact ⟨fun kv hkv => shk_of (h kv hkv).1 (by have := (h kv hkv).2; omega), eqK_refl (by rw [G.ks]; exact inr_nd G.nd) fun kv hkv => (h kv hkv).1⟩
section
variable {P : Program} {w : World} {K : PySem.W.Frag} {mg : Str → Option Value} {base : Heap}
def RNeq (T : Txt P K mg) : Rd3 := fun ds Pd _ => ∃ b1 o1 f1 b2 o2 f2, ds = [netD T b1 o1 f1, netD T b2 o2 f2] ∧ (cmpK b1 ∧ cmpK o1 ∧ cmpK b2 ∧ cmpK o2) ∧ Pd (.bl (eqK b1 b2 && eqK o1 o2))
theorem ok_Net_eq (T : Txt P K mg) : FnOk P w K mg base CX0 1 T.a_Net_eq T.d_Net_eq ["self", "other"] (spW K false (RNeq T)) := by
  refine T.F_Net_eq.ok sc_Net_eq (fun vs H Q E h => w_len 2 h fun _ _ _ ⟨_, _, _, _, _, _, e, _⟩ => by rw [e]; rfl) (fun cdv A outer s H vs Q E hr h => ⟨_, PSs.nox (pss_cons (ps_if (pt_not (pt_val (pe_callB (u_isinstance K) rfl T.n_isinstance (by decide +kernel) (pa_cons (pv 1) (pa_cons (pe_glob (v := .ref (T.c_Net)) rfl T.g_Net rfl) pa_nil))))) (pss_one (ps_ret pe_bl)) pss_nil) (pss_one (ps_ret (pe_and (pe_cmpR (uEq K (hu64 hr)) (pe_fld (pv 0) rfl) (pe_fld (pv 1) rfl) (nomark _)) (pe_one (pe_cmpR (uEq K (hu64 hr)) (pe_fld (pv 0) rfl) (pe_fld (pv 1) rfl) (nomark _))))))), w_start h 2 rfl fun ds Pd xe ⟨b1, o1, f1, b2, o2, f2, e, ⟨h1, h2, h3, h4⟩, p⟩ => ?_⟩)
  subst e
  refine ⟨Nat.le_of_ble_eq_true rfl, ?_⟩
  refine wd_seq (wd_if (eb_not (eb_B (et_isOwn T.l_Net T.i_Net (et_var rfl ⟨.inr ⟨_, rfl⟩, nt rfl (wd_next ?_)⟩)))))
  refine wd_ret (et_andV (et_op rop_eq (et_fld T.l_Net T.o_Net_box_table (et_var rfl ⟨_, _, rfl, rfl, et_fld T.l_Net T.o_Net_box_table (et_var rfl ⟨_, _, rfl, rfl, h1, h3, ?_⟩)⟩))))
  cases hb : eqK b1 b2 with
  | false =>
    rw [hb] at p
    exact bf rfl p
  | true =>
    rw [hb, Bool.true_and] at p
    exact bt rfl (et_op rop_eq (et_fld T.l_Net T.o_Net_output_table (et_var rfl ⟨_, _, rfl, rfl, et_fld T.l_Net T.o_Net_output_table (et_var rfl ⟨_, _, rfl, rfl, h2, h4, p⟩)⟩)))
end
end Lw
namespace Lw
open PySem PySem.Spec PyProof.Rows L2 Evl Wv TL
/-- the words of a line -/
def wds (l : Str) : List Str := Txt.split l (Str.ofString " ")
/-- lines are read one by one; a line that cannot stand there is told by its number -/
def OfL : List Str → Nat → List (Key × Dt) → List (Key × Dt) → Nat ⊕ (List (Key × Dt) × List (Key × Dt))
  | [], _, X, Y => .inr (X, Y)
  | l :: ls, i, X, Y => match TLn (wds l) X Y with
    | none => .inl (i + 1)
    | some q => OfL ls (i + 1) q.1 q.2
def lns (z : Str) : List Str := Txt.split z (Str.ofString "\n")
/-- a text is read -/
def OfT (z : Str) : Nat ⊕ (List (Key × Dt) × List (Key × Dt)) := match OfL (lns z).dropLast 0 [] [] with
  | .inl k => .inl k
  | .inr q => if (lns z).getLast? ≠ some (Str.ofString "") ∨ (lns z).length = 1 then .inl (lns z).length else .inr q
theorem OfL_cons (l : Str) (ls : List Str) (i : Nat) (X Y : List (Key × Dt)) : OfL (l :: ls) i X Y = match TLn (wds l) X Y with
    | none => .inl (i + 1)
    | some q => OfL ls (i + 1) q.1 q.2 := rfl
theorem OfL_app : ∀ (l1 l2 : List Str) (i : Nat) (X Y : List (Key × Dt)), OfL (l1 ++ l2) i X Y = match OfL l1 i X Y with
    | .inl k => .inl k
    | .inr q => OfL l2 (i + l1.length) q.1 q.2
  | [], l2, i, X, Y => rfl
  | l :: l1, l2, i, X, Y => by
    rw [List.cons_append, OfL_cons, OfL_cons]
    cases q : TLn (wds l) X Y with
    | none => rfl
    | some x =>
      dsimp only
      rw [OfL_app l1 l2 (i + 1) x.1 x.2, show i + 1 + l1.length = i + (l :: l1).length by rw [List.length_cons]; omega]
/-- stores keep a table a table -/
theorem TbK.put {X : List (Key × Dt)} {ks : List Str} (h : TbK X ks) {k : Str} {d : Dt} (hm : k ∉ ks) (hk : k.length ≤ Zz) (hd : shk d) (hl : X.length + 1 < Zz) : TbK (dpt X (.inr k) d) (ks ++ [k]) ∧ (dpt X (.inr k) d).length = X.length + 1 := by
  have hm2 : (.inr k : Key) ∉ X.map (·.1) := by
    rw [h.kx]
    intro z
    obtain ⟨y, hy, e⟩ := List.mem_map.mp z
    cases e
    exact hm hy
  rw [dpt_new hm2]
  refine ⟨⟨by rw [List.map_append, h.kx, List.map_append]; rfl, fun y hy => ?_, fun kv hkv => ?_, ?_⟩, ?_⟩
  · rcases List.mem_append.mp hy with hy | hy
    · exact h.sz y hy
    · rw [List.mem_singleton.mp hy]; exact hk
  · rcases List.mem_append.mp hkv with hy | hy
    · exact h.sh kv hy
    · rw [List.mem_singleton.mp hy]; exact hd
  · rw [List.length_append]; exact hl
  · rw [List.length_append]; rfl
/-- no key stands behind a text or at it: the text is no key -/
theorem gek_not {b : Str} {X : List (Key × Dt)} {ks : List Str} (h : X.map (·.1) = ks.map Sum.inr) (hg : gek b X = false) : b ∉ ks := fun hb => by
  rw [gek_ks h] at hg
  have := List.any_eq_false.mp hg b hb
  simp [lt_nl_irr] at this
theorem shk_in {c : Str} (h : wordD (.str c) = true) : shk (.tup [.str inS, .str c]) := by
  refine shk_of ?_ ?_
  · unfold dat
    refine dats_of fun y hy => ?_
    simp only [List.mem_cons, List.not_mem_nil, or_false] at hy
    rcases hy with e | e
    · rw [e]; unfold dat; decide +kernel
    · rw [e]; exact (word_ok h).1
  · unfold dep
    have : deps [Dt.str inS, .str c] ≤ 3 := deps_le (n := 3) fun y hy => by
      simp only [List.mem_cons, List.not_mem_nil, or_false] at hy
      rcases hy with e | e <;> (rw [e]; unfold dep; omega)
    omega
theorem shk_op {c u : Str} {r : List Str} (h : wordD (.str c) = true) : shk (.tup [.str opS, .str c, .lst (tlW u c r)]) := by
  have hD := tlW_dat u c r
  have hd : deps (tlW u c r) ≤ 30 := deps_le (n := 30) fun x hx => by
    rcases tlW_ok hx with e | ⟨y, e, h1, h2⟩
    · rw [e]; unfold dep; omega
    · rw [e]; have := (wD_dat17 h1 h2).2; omega
  refine shk_of ?_ ?_
  · unfold dat
    refine dats_of fun y hy => ?_
    simp only [List.mem_cons, List.not_mem_nil, or_false] at hy
    rcases hy with e | e | e
    · rw [e]; unfold dat; decide +kernel
    · rw [e]; exact (word_ok h).1
    · rw [e]; unfold dat; exact hD.1
  · unfold dep
    have : deps [Dt.str opS, .str c, .lst (tlW u c r)] ≤ 35 := deps_le (n := 35) fun y hy => by
      simp only [List.mem_cons, List.not_mem_nil, or_false] at hy
      rcases hy with e | e | e <;> (rw [e]; unfold dep; omega)
    omega
theorem TLn_ok {ws : List Str} {X Y : List (Key × Dt)} {kx ky : List Str} {q : List (Key × Dt) × List (Key × Dt)} (hX : TbK X kx) (hY : TbK Y ky) (hl : X.length + Y.length + 1 < Zz) (h : TLn ws X Y = some q) :
    ∃ kx' ky', TbK q.1 kx' ∧ TbK q.2 ky' ∧ q.1.length + q.2.length = X.length + Y.length + 1 := by
  match ws, h with
  | [], h => cases h
  | [_], h => cases h
  | [_, _], h => cases h
  | u :: v :: c :: r, h =>
    unfold TLn at h
    dsimp only at h
    by_cases hv : wordD (.str v) = false
    · rw [if_pos hv] at h; cases h
    rw [if_neg hv] at h
    have hv8 : v.length ≤ Zz := by
      have := (word_ok (z := v) (by simpa using hv)).2.1
      simp only [Zz]
      omega
    by_cases hg : gek v (if u = outS then Y else X) = true ∨ (u ≠ outS ∧ Y.isEmpty = false)
    · rw [if_pos hg] at h; cases h
    rw [if_neg hg] at h
    have hg : gek v (if u = outS then Y else X) = false := by
      cases e : gek v (if u = outS then Y else X) with
      | false => rfl
      | true => exact absurd (.inl e) hg
    by_cases h1 : u = inS ∧ r.isEmpty = true ∧ wordD (.str c) = true
    · rw [if_pos h1] at h
      cases h
      rw [if_neg (by rw [h1.1]; decide +kernel)] at hg
      obtain ⟨p1, p2⟩ := hX.put (gek_not hX.kx hg) hv8 (shk_in h1.2.2) (by omega)
      exact ⟨_, _, p1, hY, by dsimp only; omega⟩
    rw [if_neg h1] at h
    by_cases h2 : (tlW u c r).any isNon = true
    · rw [if_pos h2] at h; cases h
    rw [if_neg h2] at h
    by_cases h3 : u = outS ∧ (tlW u c r).length = 1
    · rw [if_pos h3] at h
      cases h
      rw [if_pos h3.1] at hg
      have hs : shk ((tlW u c r).headD .non) := by
        cases e : tlW u c r with
        | nil => rw [e] at h3; exact absurd h3.2 (by simp)
        | cons d l =>
          have hd : d ∈ tlW u c r := by rw [e]; exact List.mem_cons_self ..
          rcases tlW_ok hd with e2 | ⟨x, e2, w1, w2⟩
          · exact absurd (List.any_eq_true.mpr ⟨d, hd, by rw [e2]; rfl⟩) h2
          · show shk d
            rw [e2]
            have := wD_dat17 w1 w2
            exact shk_of this.1 (by omega)
      obtain ⟨p1, p2⟩ := hY.put (gek_not hY.kx hg) hv8 hs (by omega)
      exact ⟨_, _, hX, p1, by dsimp only; omega⟩
    rw [if_neg h3] at h
    by_cases h4 : ¬ u = opS ∨ wordD (.str c) = false ∨ ¬ (1 ≤ (tlW u c r).length ∧ (tlW u c r).length ≤ 4)
    · rw [if_pos h4] at h; cases h
    rw [if_neg h4] at h
    cases h
    have hu : u = opS := Classical.byContradiction fun z => h4 (.inl z)
    have hc : wordD (.str c) = true := by
      cases e : wordD (.str c) with
      | true => rfl
      | false => exact absurd (.inr (.inl e)) h4
    rw [if_neg (by rw [hu]; decide +kernel)] at hg
    obtain ⟨p1, p2⟩ := hX.put (gek_not hX.kx hg) hv8 (shk_op hc) (by omega)
    exact ⟨_, _, p1, hY, by dsimp only; omega⟩
end Lw
namespace Lw
open PySem PySem.Spec PyProof.Rows L2 Evl Wv TL
theorem TbK.nil : TbK [] [] := ⟨rfl, (fun _ h => by cases h), (fun _ h => by cases h), by decide⟩
theorem ctD_i0 (ds : List Dt) : ctD ds none (some (-1)) = ds.take (ds.length - 1) := by
  unfold ctD
  have e1 : HT.sIx ds.length 0 none = 0 := rfl
  have e2 : HT.sIx ds.length ds.length (some (-1)) = ds.length - 1 := by
    unfold HT.sIx
    cases ds with
    | nil => rfl
    | cons a l => simp; omega
  rw [e1, e2, List.drop_zero, Nat.sub_zero]
theorem shk_ad {p : Addr} (h : shk (.ad p)) : False := by
  have := h.1
  unfold shp toP at this
  exact absurd this (by decide)
theorem at_lastO (ds : List Dt) (d : Dt) : atI (ds ++ [d]) (-1) = some d := by
  unfold atI ixN
  rw [if_neg (by decide), if_pos (by rw [List.length_append, List.length_singleton]; omega)]
  show (ds ++ [d])[((-1 : Int) + ((ds ++ [d]).length : Int)).toNat]? = some d
  rw [List.length_append, List.length_singleton, show ((-1 : Int) + ((ds.length + 1 : Nat) : Int)).toNat = ds.length by omega, List.getElem?_append_right (Nat.le_refl _), Nat.sub_self]
  rfl
section
variable {P : Program} {w : World} {K : PySem.W.Frag} {mg : Str → Option Value} {base : Heap}
def ROf (T : Txt P K mg) : Rd3 := fun ds Pd xe => ∃ z : Str, ds = [.str z] ∧ z.length ≤ 80000 ∧ (∀ l ∈ lns z, ∀ u ∈ wds l, (tl u).count 40 < 24) ∧ match OfT z with
  | .inl k => xe T.c_BadText [("line", .int (k : Int))]
  | .inr q => RN T [.dct q.1, .dct q.2] Pd xe
theorem w_of_text (T : Txt P K mg) : FnOk P w K mg base (L2.CX P w) 29 T.a_Net_of_text T.d_Net_of_text ["text"] (spW K true (ROf T)) := by
  refine T.F_Net_of_text.ok sc_Net_of_text (fun vs H Q E h => w_len 1 h fun _ _ _ ⟨_, e, _⟩ => by rw [e]; rfl) (fun cdv A outer s H vs Q E hr h => ⟨_, (pss_cons (ps_set (i := 1) sc_Net_of_text.nd rfl (Or.inl rfl) (pe_splitT (pv 0) pe_str)) (pss_cons (ps_par (i := 2) (j := 3) rfl sc_Net_of_text.nd rfl rfl (by decide) rfl rfl (pa_cons pe_dnewK (pa_cons pe_dnewK pa_nil)) rfl rfl) (pss_cons (ps_for (passes_of rfl) rfl (pi_enum rfl T.n_enumerate (pa_cons (pe_slice (uSlA K) (pv 1) po_none (po_some (pe_un un_neg pe_int))) pa_nil)) (pg_tupK (K := K) (n := 2) rfl (pgs_cons (pg_name (i := 4) sc_Net_of_text.nd rfl (Or.inl rfl)) (pgs_cons (pg_name (i := 5) sc_Net_of_text.nd rfl (Or.inl rfl)) pgs_nil))) (pss_one (ps_if (pt_not (pt_val (pe_call (w_takes_line T) (hr.mono (by omega)) rfl T.g_takes_line T.F_takes_line.kp T.b_takes_line .nil pass0 (pa_cons (pe_splitT (pv 5) pe_str) (pa_cons (pv 2) (pa_cons (pv 3) pa_nil)))))) (pss_one (ps_raiseW rfl (takes_of rfl rfl rfl rfl) (pmk_sx (k := 0) T.X_BadText (hr.mono (by omega)) T.g_BadText (ExcC.ra T.e_BadText T.X_BadText) (pa_cons (pe_op (uAdd K) (pv 4) pe_int) pa_nil)))) pss_nil))) (pss_cons (ps_if (PW.pt (pw_or (pt_cmpR (uNe K (hu64 hr)) (pe_ix (uIxA K (hu64 hr)) (pv 1) (pe_un un_neg pe_int) (fun _ _ => rfl)) pe_str (nomark _)) (pw_or1 (pt_cmpR (uEq K (hu64 hr)) (pe_callB (u_lenA K) rfl T.n_len (by decide +kernel) (pa_cons (pv 1) pa_nil)) pe_int (nomark _))))) (pss_one (ps_raiseW rfl (takes_of rfl rfl rfl rfl) (pmk_sx (k := 0) T.X_BadText (hr.mono (by omega)) T.g_BadText (ExcC.ra T.e_BadText T.X_BadText) (pa_cons (pe_callB (u_lenA K) rfl T.n_len (by decide +kernel) (pa_cons (pv 1) pa_nil)) pa_nil)))) pss_nil) (pss_one (ps_ret (pe_make T.k_Net (ok_Net_init T) (hr.mono (by omega)) rfl T.g_Net T.b_Net_init .nil (passes_call (takes_of rfl rfl rfl rfl) fun _ _ _ _ h => h) (pa_cons (pv 2) (pa_cons (pv 3) pa_nil))))))))), w_start h 6 rfl fun ds Pd xe ⟨z, e, hz, hc, p⟩ => ?_⟩)
  subst e
  refine ⟨Nat.le_of_ble_eq_true rfl, ?_⟩
  have eN : Txt.split z (Str.ofString "\n") = (spl [10] 0 [] (tl z)).map mkS := split1_eq (by decide +kernel) (by decide +kernel)
  refine wd_seq (wd_asg (Ef.et (ef_split (et_var rfl ⟨_, rfl, et_str ⟨_, rfl, by decide +kernel, ?_⟩⟩))))
  refine ⟨?_, ?_, ?_⟩
  · rw [eN, List.length_map]
    have := spl1_cl 10 (tl z) []
    have hzl := len_tl z
    simp only [List.length_nil, Zz] at this ⊢
    omega
  · intro u hu
    rw [eN] at hu
    obtain ⟨l, hl, rfl⟩ := List.mem_map.mp hu
    have := spl1_mem hl
    have hzl := len_tl z
    rw [len_mkS]
    simp only [List.length_nil, Zz] at this ⊢
    omega
  refine wd_seq (wd_parOO (ef_dnew (ef_dnew ?_)))
  refine wd_toG (i := 2) rfl (fun r t q => by cases q) fun a => ?_
  refine wd_join (i := 2) (j := 3) rfl rfl (by decide) (fun r t q => by cases q) fun b hb => ?_
  have hba : b ≠ a := fun q => by rw [q] at hb; exact absurd hb (gr_some gput_same)
  obtain ⟨L, eL⟩ : ∃ L, L = lns z := ⟨_, rfl⟩
  have hL : L.length ≤ 80001 := by
    rw [eL]
    unfold lns
    rw [eN, List.length_map]
    have := spl1_cl 10 (tl z) []
    have hzl := len_tl z
    simp only [List.length_nil] at this ⊢
    omega
  have hl8 : ∀ l ∈ L, l.length ≤ 80000 := fun l hl => by
    rw [eL] at hl
    unfold lns at hl
    rw [eN] at hl
    obtain ⟨l, hl2, rfl⟩ := List.mem_map.mp hl
    have := spl1_mem hl2
    have hzl := len_tl z
    rw [len_mkS]
    simp only [List.length_nil] at this ⊢
    omega
  have hc : ∀ l ∈ L, ∀ u ∈ wds l, (tl u).count 40 < 24 := by rw [eL]; exact hc
  unfold OfT at p
  rw [← eL] at p
  have hne : L ≠ [] := by
    rw [eL]
    unfold lns
    rw [eN]
    intro q
    have := spl1_len 10 (tl z) []
    rw [List.map_eq_nil_iff.mp q] at this
    simp at this
  obtain ⟨L0, w0, rfl⟩ : ∃ L0 w0, L = L0 ++ [w0] := ⟨L.dropLast, L.getLast hne, (List.dropLast_concat_getLast hne).symm⟩
  rw [List.dropLast_concat, List.getLast?_concat] at p
  have eS : ∀ l : Str, Txt.split l (Str.ofString " ") = (spl [32] 0 [] (tl l)).map mkS := fun l => split1_eq (by decide +kernel) (by decide +kernel)
  have hwl : ∀ l ∈ L0 ++ [w0], (wds l).length ≤ 80001 ∧ ∀ u ∈ wds l, u.length ≤ 80000 := fun l hl => by
    unfold wds
    rw [eS]
    have h8 := hl8 l hl
    rw [len_tl] at h8
    refine ⟨?_, fun u hu => ?_⟩
    · rw [List.length_map]
      have := spl1_cl 32 (tl l) []
      simp only [List.length_nil] at this ⊢
      omega
    · obtain ⟨u, hu2, rfl⟩ := List.mem_map.mp hu
      have := spl1_mem hu2
      rw [len_mkS]
      simp only [List.length_nil] at this ⊢
      omega
  show Wd _ [.v (.str z), .v (.lst ((Txt.split z (Str.ofString "\n")).map .str)), .own (gD a (G2 a b [] [])), .v (.ad b), .no, .no] _ _
  rw [show Txt.split z (Str.ofString "\n") = L0 ++ [w0] from eL.symm]
  refine wd_seq (wd_for (ei_enum (ea_cons (et_sl (et_var rfl (eo_none (eo_some (et_neg (et_int ⟨1, rfl, -1, rfl, slL (ea_nil ⟨_, rfl, ?_⟩)⟩))))))))) 
  rw [ctD_i0, ← List.map_take, List.length_map, ← List.dropLast_eq_take, List.dropLast_concat]
  refine ⟨fun i e => ∃ X Y kx ky s4 s5, e = [.v (.str z), .v (.lst ((L0 ++ [w0]).map .str)), .own (gD a (G2 a b X Y)), .v (.ad b), s4, s5] ∧ TbK X kx ∧ TbK Y ky ∧ X.length + Y.length = i ∧ OfL (L0.take i) 0 [] [] = .inr (X, Y), ⟨[], [], [], [], _, _, rfl, TbK.nil, TbK.nil, rfl, rfl⟩, ?_, ?_⟩
  · rintro i d e hi ⟨X, Y, kx, ky, s4, s5, rfl, hX, hY, hn, hO⟩
    obtain ⟨y, hy, rfl⟩ := enumD_get hi
    obtain ⟨l, hl, rfl⟩ : ∃ l, L0[i]? = some l ∧ y = .str l := by
      rw [List.getElem?_map] at hy
      cases e : L0[i]? with
      | none => rw [e] at hy; cases hy
      | some x => rw [e] at hy; cases hy; exact ⟨x, rfl, rfl⟩
    have hlt : L0.take (i + 1) = L0.take i ++ [l] := by rw [List.take_add_one, hl]; rfl
    have hil : i < L0.length := (List.getElem?_eq_some_iff.mp hl).1
    have hlL : l ∈ L0 ++ [w0] := List.mem_append_left _ (List.mem_of_getElem? hl)
    have hO2 : OfL (L0.take (i + 1)) 0 [] [] = match TLn (wds l) X Y with
        | none => .inl (i + 1)
        | some q => .inr q := by
      rw [hlt, OfL_app, hO]
      dsimp only
      rw [List.length_take, Nat.min_eq_left (by omega), Nat.zero_add, OfL_cons]
      cases TLn (wds l) X Y <;> rfl
    have hi8 : i < 80001 := by rw [List.length_append] at hL; omega
    refine (tv_tup (tgs_cons (tv_name (tgs_cons (tv_name (tgs_nil ?_)))))).tg
    show Wd _ [.v (.str z), .v (.lst ((L0 ++ [w0]).map .str)), .own (gD a (G2 a b X Y)), .v (.ad b), .v (.int (i : Int)), .v (.str l)] _ _
    refine wd_if (eb_not (eb_B (et_callK0 nolk (ea_cons (Ef.et (ef_split (et_var rfl ⟨_, rfl, et_str ⟨_, rfl, by decide +kernel, ?_⟩⟩)))))))
    refine ⟨?_, fun u hu => ?_, ?_⟩
    · have := (hwl l hlL).1
      unfold wds at this
      simp only [Zz]
      omega
    · have := (hwl l hlL).2 u hu
      simp only [Zz]
      omega
    refine ea_cons (et_selfG rfl (ea_cons (et_var rfl (ea_nil ⟨a, 2, a, G2 a b X Y, rfl, rfl, gr_some (G2_a hba), b, wds l, X, Y, kx, ky, rfl, hba, rfl, hX, hY, ⟨?_, fun u hu => ⟨?_, hc l hlL u hu⟩⟩, ?_⟩))))
    · have := (hwl l hlL).1
      omega
    · have := (hwl l hlL).2 u hu
      simp only [Zz]
      omega
    cases hT : TLn (wds l) X Y with
    | none =>
      rw [hT] at hO2
      have hO3 : OfL L0 0 [] [] = .inl (i + 1) := by
        rw [← List.take_append_drop (i + 1) L0, OfL_app, hO2]
      rw [hO3] at p
      refine ⟨Kp.refl, Wv.nf rfl (wd_raise (ea_cons (et_op rop_add (et_var rfl (et_int (ea_nil ⟨_, rfl, p⟩))))))⟩
    | some q =>
      rw [hT] at hO2
      obtain ⟨kx', ky', h1, h2, h3⟩ := TLn_ok hX hY (by simp only [Zz]; omega) hT
      refine ⟨fun y => ?_, Wv.nt rfl (wd_next ?_)⟩
      · unfold G2 gput
        by_cases h1 : y = b
        · rw [if_pos h1, if_pos h1]; exact ⟨(fun _ z => nomatch z), (fun _ z => nomatch z)⟩
        · rw [if_neg h1, if_neg h1]
          by_cases h2 : y = a
          · rw [if_pos h2, if_pos h2]; exact ⟨(fun _ z => nomatch z), (fun _ z => nomatch z)⟩
          · rw [if_neg h2, if_neg h2]
      · exact ⟨q.1, q.2, kx', ky', _, _, rfl, h1, h2, by omega, hO2⟩
  · rintro e ⟨X, Y, kx, ky, s4, s5, rfl, hX, hY, hn, hO⟩
    rw [enumD_len, List.length_map, List.take_length] at hO
    rw [hO] at p
    dsimp only at p
    have hat : ∀ k : Dt → Prop, k (.str w0) → fIx (.lst ((L0 ++ [w0]).map .str)) (.int (-1)) k := fun k hk => by
      rw [List.map_append]
      exact ⟨.str w0, at_lastO _ _, hk⟩
    have bad : (some w0 ≠ some (Str.ofString "") ∨ (L0 ++ [w0]).length = 1) → xe T.c_BadText [("line", .int ((L0 ++ [w0]).length : Int))] := fun h => by
      rw [if_pos h] at p
      exact p
    refine wd_seq (wd_if (eb_or (eb_test (et_op rop_ne (et_op rop_ix (et_var rfl (et_neg (et_int ⟨1, rfl, hat _ (et_str (fne_s (Wv.b2 (fun h => iteT (wd_raise (ea_cons (et_cb rcl_len (ea_cons (et_var rfl (ea_nil (lenLst (ea_nil ⟨_, rfl, ?_⟩))))))))) fun h => ?_)))⟩))))))))
    · rw [List.length_map]
      exact bad (.inl (fun z => by simp at h; exact h (Option.some.inj z)))
    refine eb_test (et_op rop_eq (et_cb rcl_len (ea_cons (et_var rfl (ea_nil (lenLst (et_int (feq_i (Wv.b2 (fun h2 => wd_raise (ea_cons (et_cb rcl_len (ea_cons (et_var rfl (ea_nil (lenLst (ea_nil ⟨_, rfl, ?_⟩)))))))) fun h2 => wd_next ?_)))))))))
    · rw [List.length_map]
      have h2 := of_decide_eq_true h2
      rw [List.length_map] at h2
      exact bad (.inr (by omega))
    have h2 := of_decide_eq_false h2
    rw [List.length_map] at h2
    rw [if_neg (fun z => by
      rcases z with z | z
      · simp at h; exact z (by rw [h])
      · exact h2 (by omega))] at p
    refine wd_leave (G' := fun y => if y = b then none else G2 a b X Y y) (b := b) (j := 3) (i := 2) rfl rfl G2_b hba (by show (if a = b then none else G2 a b X Y a) ≠ none; rw [if_neg (Ne.symm hba), G2_a hba]; exact fun z => nomatch z) (fun y e z => ?_) ?_
    · have z : (if y = b then none else G2 a b X Y y) = some e := z
      by_cases e2 : y = b
      · rw [if_pos e2] at z; cases z
      · rw [if_neg e2] at z; exact ⟨e2, z⟩
    refine wd_frzG (i := 2) 1 rfl ?_
    have er : rs 1 (fun y => if y = b then none else G2 a b X Y y) (.ad a) = .dct X := by
      have e1 : (if a = b then none else G2 a b X Y a) = some (.dct X) := by rw [if_neg (Ne.symm hba), G2_a hba]
      unfold rs
      dsimp only
      rw [e1]
      dsimp only
      have : (X.map fun kv => (kv.1, rs 0 (fun y => if y = b then none else G2 a b X Y y) kv.2)) = X.map id := List.map_congr_left fun kv hkv => by
        rw [rs_nad fun p q => by have := hX.sh kv hkv; rw [q] at this; exact shk_ad this]
        rfl
      rw [this, List.map_id]
    rw [er]
    show Wd _ [.v (.str z), .v (.lst ((L0 ++ [w0]).map .str)), .v (.dct X), .v (.dct Y), s4, s5] _ _
    exact wd_ret (et_make samelk (ea_cons (et_var rfl (ea_cons (et_var rfl (ea_nil p))))))
end
end Lw
namespace Wv
open PySem PySem.Spec PyProof.Rows L2 Evl
section
variable {g : Gx} {env : List Sl} {te : TE} {E : De}
end
end Wv
/-! sorted(d) of a dict whose keys are tuples of ints and texts, all of one shape. -/
namespace Nk
open PySem PySem.Spec PyProof.Rows L2
abbrev KO : KeyOrd := listOrd itemOrd
section
variable {P : Program} {w : World} {h : Heap}
end
section
variable {X : Cx} {hs : K2 → Int}
end
end Nk
namespace Wv
open PySem PySem.Spec PyProof.Rows L2 Evl Nk
section
variable {g : Gx} {env : List Sl} {P : Dt → List Sl → Prop} {hs : K2 → Int}
end
end Wv
/-! A dict of lists in a graph: get with a default, a fresh list put in, a store by place; a list that is drawn out by a tuple; sorted(d) of a tree. -/
namespace PySem.SeqAt
open AutoSeq1 (wpAny_loadPart')
open MeetsSeq MeetsSeq2 MeetsSeq3 SeqRoads2
end PySem.SeqAt
namespace L2
open PySem PySem.Spec PyProof.Rows
section
variable {X : Cx}
end
end L2
namespace Wv
open PySem PySem.Spec PyProof.Rows L2 Evl
section
variable {g : Gx} {c : Cc} {H H1 H2 H' : Hp} {σ : L2.St} {env e1 : List Sl} {ta tb te td ty tv tx ti : TE} {P : Dt → List Sl → Prop} {d : Dt} {E : De} {a b p : Addr} {G G' : Gr} {i j : Nat}
end
end Wv
namespace Lw
open PySem PySem.Spec PyProof.Rows L2 Evl Wv TL
/-! ### the lines of a net -/
def wtD : Dt → Str
  | .tup [.str b, .lst ts] => mkS (wtx (b, ts))
  | _ => Str.ofString ""
abbrev lnJ (ws : List Str) : Str := Txt.join (Str.ofString " ") ws
/-- the words of a box's line -/
def bxL (n : Str) : Dt → List Str
  | .tup [.str a, .str c] => [a, n, c]
  | .tup [.str a, .str c, .lst ds] => [a, n, c] ++ ds.map wtD
  | _ => []
def otL (n : Str) (d : Dt) : List Str := [outS, n, wtD d]
def bxLn (bt : List (Key × Dt)) (n : Str) : Str := lnJ (bxL n ((dlk bt (.inr n)).getD .non))
def otLn (ot : List (Key × Dt)) (n : Str) : Str := lnJ (otL n ((dlk ot (.inr n)).getD .non))
def txL (bt ot : List (Key × Dt)) (ys zs : List Str) : List Str := ys.map (bxLn bt) ++ zs.map (otLn ot)
def txN (bt ot : List (Key × Dt)) (ys zs : List Str) : Str := Txt.join (Str.ofString "") ((txL bt ot ys zs).map fun l => l ++ Str.ofString "\n")
/-- a wire that is written -/
structure TxW (x : Wi) : Prop where
  w : wordD (.str x.1) = true
  t : ∀ t ∈ x.2, ttPre 7 t
  l : x.2.length ≤ 8
theorem TxW.len {x : Wi} (h : TxW x) : (mkS (wtx x)).length ≤ 1600 := by rw [len_mkS]; exact wtx_len h.w h.t h.l
inductive TxB : Dt → List Wi → Prop where
  | inp (z : Str) (h : wordD (.str z) = true) : TxB (.tup [.str "in", .str z]) []
  | op (z : Str) (ws : List Wi) (h : wordD (.str z) = true) (hl : 1 ≤ ws.length ∧ ws.length ≤ 4) (hw : ∀ x ∈ ws, TxW x) : TxB (.tup [.str "op", .str z, .lst (ws.map wD)]) ws
theorem TxW.ok {x : Wi} (h : TxW x) : okW x := by
  refine ⟨dats_cg (n := 7) fun y hy => (h.t y hy).1, ?_⟩
  have := deps_le (n := 7) (xs := x.2) fun y hy => by have := cg_dep (h.t y hy).1; omega
  omega
theorem TxB.kb {b : Dt} {ws : List Wi} (h : TxB b ws) : KB b ws := by
  cases h with
  | inp z => exact .inp z
  | op z ws _ _ hw => exact .op z ws fun x hx => (hw x hx).ok
theorem TxB.sh {b : Dt} {ws : List Wi} (h : TxB b ws) (n : Str) : ∃ a c r, itL b = some (.str a :: .str c :: r) ∧ bxL n b = [a, n, c] ++ ws.map fun x => mkS (wtx x) := by
  cases h with
  | inp z => exact ⟨_, _, _, rfl, rfl⟩
  | op z ws _ _ hw =>
    refine ⟨_, _, _, rfl, ?_⟩
    show [opS, n, z] ++ (ws.map wD).map wtD = _
    rw [List.map_map]
    rfl
theorem TxB.wx {b : Dt} {ws : List Wi} (h : TxB b ws) : ∀ x ∈ ws, TxW x := by
  cases h with
  | inp z => intro x hx; cases hx
  | op z ws _ _ hw => exact hw
theorem join_len (a : Str) (ys : List Str) : (Txt.join a ys).length ≤ (ys.map fun y => y.length + a.length).sum := by
  rw [len_tl, join_tl]
  induction ys with
  | nil => exact Nat.zero_le _
  | cons y ys ih =>
    cases ys with
    | nil =>
      show (tl y).length ≤ y.length + a.length + 0
      rw [len_tl y]
      omega
    | cons y2 ys =>
      show (tl y ++ (tl a ++ joinL (tl a) ((y2 :: ys).map tl))).length ≤ y.length + a.length + ((y2 :: ys).map fun y => y.length + a.length).sum
      rw [List.length_append, List.length_append, ← len_tl y, ← len_tl a]
      omega
theorem sum_le {α : Type} {f : α → Nat} {k : Nat} : ∀ {l : List α}, (∀ x ∈ l, f x ≤ k) → (l.map f).sum ≤ k * l.length
  | [], _ => Nat.zero_le _
  | x :: l, h => by
    have h1 := h x (List.mem_cons_self ..)
    have h2 := sum_le (l := l) fun y hy => h y (List.mem_cons_of_mem _ hy)
    rw [List.map_cons, List.sum_cons, List.length_cons, Nat.mul_add]
    omega
theorem spS : (Str.ofString " ").length = 1 := by decide +kernel
theorem emS : (Str.ofString "").length = 0 := by decide +kernel
theorem nlS : (Str.ofString "\n").length = 1 := by decide +kernel
theorem ln_len {ws : List Str} (h : ∀ u ∈ ws, u.length ≤ 1600) (hl : ws.length ≤ 7) : (lnJ ws).length ≤ 11207 := by
  have h1 : (lnJ ws).length ≤ _ := join_len (Str.ofString " ") ws
  have h2 := sum_le (f := fun y : Str => y.length + (Str.ofString " ").length) (k := 1601) (l := ws) fun x hx => by have := h x hx; rw [spS]; omega
  have : 1601 * ws.length ≤ 1601 * 7 := Nat.mul_le_mul_left _ hl
  omega
theorem bxL_ok {n : Str} {b : Dt} {ws : List Wi} (hn : wordD (.str n) = true) (h : TxB b ws) : (∀ u ∈ bxL n b, u.length ≤ 1600) ∧ (bxL n b).length ≤ 7 := by
  have h8 := (word_ok hn).2.1
  cases h with
  | inp z hz =>
    have hz8 := (word_ok hz).2.1
    refine ⟨fun u hu => ?_, by show 3 ≤ 7; decide⟩
    have hu : u ∈ [inS, n, z] := hu
    simp only [List.mem_cons, List.not_mem_nil, or_false] at hu
    rcases hu with e | e | e <;> rw [e]
    · decide +kernel
    · omega
    · omega
  | op z ws hz hl hw =>
    have hz8 := (word_ok hz).2.1
    refine ⟨fun u hu => ?_, ?_⟩
    · have hu : u ∈ [opS, n, z] ++ (ws.map wD).map wtD := hu
      rcases List.mem_append.mp hu with hu | hu
      · simp only [List.mem_cons, List.not_mem_nil, or_false] at hu
        rcases hu with e | e | e <;> rw [e]
        · decide +kernel
        · omega
        · omega
      · rw [List.map_map] at hu
        obtain ⟨x, hx, rfl⟩ := List.mem_map.mp hu
        exact (hw x hx).len
    · show ([opS, n, z] ++ (ws.map wD).map wtD).length ≤ 7
      rw [List.length_append, List.length_map, List.length_map]
      simp only [List.length_cons, List.length_nil]
      omega
theorem otL_ok {n : Str} {x : Wi} (hn : wordD (.str n) = true) (h : TxW x) : (∀ u ∈ otL n (wD x), u.length ≤ 1600) ∧ (otL n (wD x)).length ≤ 7 := by
  have h8 := (word_ok hn).2.1
  refine ⟨fun u hu => ?_, by show 3 ≤ 7; decide⟩
  have hu : u ∈ [outS, n, wtD (wD x)] := hu
  simp only [List.mem_cons, List.not_mem_nil, or_false] at hu
  rcases hu with e | e | e <;> rw [e]
  · decide +kernel
  · omega
  · exact h.len
/-- tables that are written -/
structure TxT (bt ot : List (Key × Dt)) (ns ons : List Str) : Prop where
  kb : bt.map (·.1) = ns.map Sum.inr
  nb : ns.Nodup
  hb : ∀ n ∈ ns, wordD (.str n) = true ∧ ∃ b ws, dlk bt (.inr n) = some b ∧ TxB b ws
  ko : ot.map (·.1) = ons.map Sum.inr
  no : ons.Nodup
  ho : ∀ n ∈ ons, wordD (.str n) = true ∧ ∃ x : Wi, dlk ot (.inr n) = some (wD x) ∧ TxW x
  ln : ns.length ≤ 6 ∧ ons.length ≤ 2
theorem TxT.bl {bt ot : List (Key × Dt)} {ns ons : List Str} (h : TxT bt ot ns ons) {n : Str} (hn : n ∈ ns) : (bxLn bt n).length ≤ 11207 := by
  obtain ⟨h1, b, ws, h2, h3⟩ := h.hb n hn
  unfold bxLn
  rw [h2]
  exact ln_len (bxL_ok h1 h3).1 (bxL_ok h1 h3).2
theorem TxT.ol {bt ot : List (Key × Dt)} {ns ons : List Str} (h : TxT bt ot ns ons) {n : Str} (hn : n ∈ ons) : (otLn ot n).length ≤ 4803 := by
  obtain ⟨h1, x, h2, h3⟩ := h.ho n hn
  unfold otLn
  rw [h2]
  have h4 : (lnJ (otL n (wD x))).length ≤ _ := join_len (Str.ofString " ") (otL n (wD x))
  have h5 := sum_le (f := fun y : Str => y.length + (Str.ofString " ").length) (k := 1601) (l := otL n (wD x)) fun u hu => by have := (otL_ok h1 h3).1 u hu; rw [spS]; omega
  have h6 : (otL n (wD x)).length = 3 := rfl
  show (lnJ (otL n (wD x))).length ≤ 4803
  omega
theorem TxT.tl {bt ot : List (Key × Dt)} {ns ons ys zs : List Str} (h : TxT bt ot ns ons) (hy : ys.Perm ns) (hz : zs.Perm ons) : (∀ l ∈ txL bt ot ys zs, l.length ≤ 11207) ∧ (txL bt ot ys zs).length ≤ 8 := by
  refine ⟨fun l hl => ?_, ?_⟩
  · rcases List.mem_append.mp hl with hl | hl
    · obtain ⟨n, hn, rfl⟩ := List.mem_map.mp hl
      exact h.bl (hy.mem_iff.mp hn)
    · obtain ⟨n, hn, rfl⟩ := List.mem_map.mp hl
      have := h.ol (hz.mem_iff.mp hn)
      omega
  · unfold txL
    rw [List.length_append, List.length_map, List.length_map, hy.length_eq, hz.length_eq]
    have := h.ln
    omega
theorem TxT.tx {bt ot : List (Key × Dt)} {ns ons ys zs : List Str} (h : TxT bt ot ns ons) (hy : ys.Perm ns) (hz : zs.Perm ons) : (txN bt ot ys zs).length ≤ 78456 ∧ (((txL bt ot ys zs).map fun l => l ++ Str.ofString "\n").map (·.length)).sum ≤ 78456 := by
  have hs : (((txL bt ot ys zs).map fun l => l ++ Str.ofString "\n").map (·.length)).sum ≤ 78456 := by
    rw [List.map_map]
    unfold txL
    rw [List.map_append, List.sum_append]
    have la : ∀ l : Str, (l ++ Str.ofString "\n").length = l.length + 1 := fun l => by rw [len_tl, tl_append, List.length_append, ← len_tl, ← len_tl, nlS]
    have h1 := sum_le (f := ((fun l : Str => l.length) ∘ fun l => l ++ Str.ofString "\n")) (k := 11208) (l := ys.map (bxLn bt)) fun l hl => by
      obtain ⟨n, hn, rfl⟩ := List.mem_map.mp hl
      have := h.bl (hy.mem_iff.mp hn)
      show (bxLn bt n ++ _).length ≤ _
      rw [la]
      omega
    have h2 := sum_le (f := ((fun l : Str => l.length) ∘ fun l => l ++ Str.ofString "\n")) (k := 4804) (l := zs.map (otLn ot)) fun l hl => by
      obtain ⟨n, hn, rfl⟩ := List.mem_map.mp hl
      have := h.ol (hz.mem_iff.mp hn)
      show (otLn ot n ++ _).length ≤ _
      rw [la]
      omega
    rw [List.length_map] at h1 h2
    have := h.ln
    have e1 := hy.length_eq
    have e2 := hz.length_eq
    have h3 : 11208 * ys.length ≤ 11208 * 6 := Nat.mul_le_mul_left _ (by omega)
    have h4 : 4804 * zs.length ≤ 4804 * 2 := Nat.mul_le_mul_left _ (by omega)
    omega
  refine ⟨?_, hs⟩
  have h4 : (txN bt ot ys zs).length ≤ _ := join_len (Str.ofString "") ((txL bt ot ys zs).map fun l => l ++ Str.ofString "\n")
  have e : ((txL bt ot ys zs).map fun l => l ++ Str.ofString "\n").map (fun y => y.length + (Str.ofString "").length) = ((txL bt ot ys zs).map fun l => l ++ Str.ofString "\n").map (·.length) := List.map_congr_left fun y _ => by rw [emS]; omega
  rw [e] at h4
  omega
theorem strAtX {l : List Str} {i : Nat} {d : Dt} (h : (l.map Dt.str)[i]? = some d) : ∃ n, l[i]? = some n ∧ d = .str n := by
  rw [List.getElem?_map] at h
  cases e : l[i]? with
  | none => rw [e] at h; cases h
  | some n => rw [e] at h; cases h; exact ⟨n, rfl, rfl⟩
end Lw
/-! a dict's values: walked, made a list -/
namespace L2
open PySem PySem.Spec PyProof.Rows
section
variable {X : Cx} {o : Expr} {p pos apos mpos : Pos} {td : TE} {tg : Expr}
end
end L2
namespace Wv
open PySem PySem.Spec PyProof.Rows L2 Evl
section
variable {g : Gx} {env : List Sl} {te : TE} {PL : List Dt → List Sl → Prop} {P : Dt → List Sl → Prop} {so : Option Addr} {A : Addr → Prop} {H1 : Hp}
end
end Wv
/-! [e for a, b in xs for c in b] -/
namespace Wv
open PySem L2 Evl
section
variable {g : Gx} {c : Cc} {σ : L2.St} {H H1 H2 H' : Hp} {env e1 : List Sl} {d d1 d2 : Dt} {x : V} {te : TE} {tt : TT} {P : Dt → List Sl → Prop}
theorem Cq.ex {D : Addr} {acc : Dt} {H'' : Hp} (q : Cq g c σ e1 H1 D acc H') (e : Ex H' H'') : Cq g c σ e1 H1 D acc H'' := by
  refine ⟨q.sv.ex e, q.kf.trans (Ko.ex e), q.ol.keep (A := c.O) (Ko.ex e) ?_⟩
  cases z : H' D with
  | none => exact absurd z q.ol.some
  | some u => exact e D u z
end
end Wv
/-! dict(d) -/
namespace Wv
open PySem PySem.Spec PyProof.Rows L2 Evl
section
variable {g : Gx} {env : List Sl} {te : TE} {P : Dt → List Sl → Prop}
end
end Wv
/-! Sorted lists of texts are told by their members. -/
namespace Wv
open PySem PySem.Spec PyProof.Rows L2 Evl
def leS (a b : Str) : Prop := a.cps.toList ≤ b.cps.toList
theorem leS_of {a b : Str} (h : ltCps b.cps.toList a.cps.toList = false) : leS a b := by
  rw [ltCps_eq] at h
  exact List.not_lt.mp (of_decide_eq_false h)
theorem leS_trans {a b c : Str} (h : leS a b) (k : leS b c) : leS a c := List.le_trans h k
theorem leS_anti {a b : Str} (h : leS a b) (k : leS b a) : a = b := by
  have := List.le_antisymm h k
  obtain ⟨a⟩ := a
  obtain ⟨b⟩ := b
  have : a = b := Array.toList_inj.mp this
  rw [this]
theorem rise_le : ∀ {p : Str} {l : List Str}, risingS p l = true → ∀ x ∈ l, leS p x
  | p, [], _, x, h => by cases h
  | p, y :: r, hr, x, h => by
    have hr : (!ltCps y.cps.toList p.cps.toList && risingS y r) = true := hr
    obtain ⟨h1, h2⟩ := Bool.and_eq_true_iff.mp hr
    have hy : leS p y := leS_of (by simpa using h1)
    rcases List.mem_cons.mp h with e | h
    · rw [e]; exact hy
    · exact leS_trans hy (rise_le h2 x h)
theorem rise_sorted : ∀ {p : Str} {l : List Str}, risingS p l = true → sortedS l = true
  | _, [], _ => rfl
  | p, y :: r, hr => (Bool.and_eq_true_iff.mp (show (!ltCps y.cps.toList p.cps.toList && risingS y r) = true from hr)).2
theorem sorted_uniq : ∀ {ys zs : List Str}, ys.Nodup → zs.Nodup → sortedS ys = true → sortedS zs = true → (∀ n, n ∈ ys ↔ n ∈ zs) → ys = zs
  | [], [], _, _, _, _, _ => rfl
  | [], z :: zs, _, _, _, _, h => by have := (h z).mpr (List.mem_cons_self ..); cases this
  | y :: ys, [], _, _, _, _, h => by have := (h y).mp (List.mem_cons_self ..); cases this
  | y :: ys, z :: zs, h1, h2, h3, h4, h => by
    have e : y = z := by
      rcases List.mem_cons.mp ((h y).mp (List.mem_cons_self ..)) with e | hy
      · exact e
      · rcases List.mem_cons.mp ((h z).mpr (List.mem_cons_self ..)) with e | hz
        · exact e.symm
        · exact leS_anti (rise_le (show risingS y ys = true from h3) z hz) (rise_le (show risingS z zs = true from h4) y hy)
    subst e
    rw [List.nodup_cons] at h1 h2
    congr 1
    refine sorted_uniq h1.2 h2.2 (rise_sorted (show risingS y ys = true from h3)) (rise_sorted (show risingS y zs = true from h4)) fun n => ⟨fun hn => ?_, fun hn => ?_⟩
    · rcases List.mem_cons.mp ((h n).mp (List.mem_cons_of_mem _ hn)) with e | h'
      · subst e; exact absurd hn h1.1
      · exact h'
    · rcases List.mem_cons.mp ((h n).mpr (List.mem_cons_of_mem _ hn)) with e | h'
      · subst e; exact absurd hn h2.1
      · exact h'
end Wv
namespace Lw
open PySem PySem.Spec PyProof.Rows L2 Evl Wv
/-! ### tables in another order (no program) -/
/-- a dict of these names -/
def srD (bt : List (Key × Dt)) (ys : List Str) : List (Key × Dt) := ys.map fun n => (.inr n, (dlk bt (.inr n)).getD .non)
theorem srD_ks (bt : List (Key × Dt)) (ys : List Str) : (srD bt ys).map (·.1) = ys.map Sum.inr := by
  unfold srD
  rw [List.map_map]
  rfl
/-- the boxes, or outputs, in another order -/
theorem srD_lk {bt : List (Key × Dt)} {ns ys : List Str} (h : bt.map (·.1) = ns.map Sum.inr) (nd : ns.Nodup) (hp : ys.Perm ns) {n : Str} (hn : n ∈ ns) {b : Dt} (hb : dlk bt (.inr n) = some b) : dlk (srD bt ys) (.inr n) = some b := by
  refine dlk_nd (by rw [srD_ks]; exact inr_nd (hp.nodup_iff.mpr nd)) ?_
  refine List.mem_map.mpr ⟨n, hp.mem_iff.mpr hn, ?_⟩
  rw [hb]
  rfl
theorem GN.perm {bt ot : List (Key × Dt)} {ns os ys zs : List Str} {ar rk : Str → Nat} (G : GN bt ot ns os ar rk) (hy : ys.Perm ns) (hz : zs.Perm os) : GN (srD bt ys) (srD ot zs) ys zs ar rk := by
  have bxe : ∀ n ∈ ys, bxOf (srD bt ys) n = bxOf bt n := fun n hn => by
    obtain ⟨b, hb, _⟩ := G.toGB.at (hy.mem_iff.mp hn)
    unfold bxOf
    rw [srD_lk G.ks G.nd hy (hy.mem_iff.mp hn) hb, hb]
  refine ⟨⟨srD_ks bt ys, hy.nodup_iff.mpr G.nd, fun n hn => G.wd n (hy.mem_iff.mp hn), fun kv hkv => ?_, by rw [hy.length_eq]; exact G.sz⟩, ⟨srD_ks ot zs, hz.nodup_iff.mpr G.go.nd, fun n hn => G.go.wd n (hz.mem_iff.mp hn), by rw [hz.length_eq]; exact G.go.sz, fun kv hkv => ?_⟩, fun n hn x hx => ?_⟩
  · obtain ⟨n, hn, rfl⟩ := List.mem_map.mp hkv
    obtain ⟨b, hb, g⟩ := G.toGB.at (hy.mem_iff.mp hn)
    show GBox ys ar ((dlk bt (.inr n)).getD .non)
    rw [hb]
    show GBox ys ar b
    cases g with
    | inp z h => exact .inp z h
    | op f ws hf hl ha hw => exact .op f ws hf hl ha fun x hx => ⟨hy.mem_iff.mpr (hw x hx).1, (hw x hx).2⟩
  · obtain ⟨n, hn, rfl⟩ := List.mem_map.mp hkv
    have : (dlk ot (.inr n)).isSome = true := by rw [dlk_ks G.go.ks]; exact decide_eq_true (hz.mem_iff.mp hn)
    obtain ⟨t, ht⟩ := Option.isSome_iff_exists.mp this
    obtain ⟨x, e, h1, h2⟩ := G.go.ow _ (dlk_mem ht)
    refine ⟨x, ?_, hy.mem_iff.mpr h1, h2⟩
    show (dlk ot (.inr n)).getD .non = wD x
    rw [ht]
    exact e
  · rw [bxe n hn] at hx
    exact G.rk n (hy.mem_iff.mp hn) x hx
theorem eqK_perm {bt : List (Key × Dt)} {ns ys : List Str} (h : bt.map (·.1) = ns.map Sum.inr) (nd : ns.Nodup) (hp : ys.Perm ns) (hd : ∀ kv ∈ bt, dat kv.2 = true) : eqK (srD bt ys) bt = true := by
  unfold eqK hitD
  have hl : (srD bt ys).length = bt.length := by
    have e1 := congrArg List.length h
    have e2 := hp.length_eq
    unfold srD
    rw [List.length_map] at *
    rw [List.length_map] at e1
    omega
  rw [hl, beq_self_eq_true, Bool.true_and, List.all_eq_true]
  intro kv hkv
  obtain ⟨n, hn, rfl⟩ := List.mem_map.mp hkv
  have : (dlk bt (.inr n)).isSome = true := by rw [dlk_ks h]; exact decide_eq_true (hp.mem_iff.mp hn)
  obtain ⟨t, ht⟩ := Option.isSome_iff_exists.mp this
  show (match dlk bt (.inr n) with | some u => PyData.eqv (toP ((dlk bt (.inr n)).getD .non)) (toP u) | none => false) = true
  rw [ht]
  exact SeqAt.eqv_refl _ (can_dat _ (hd _ (dlk_mem ht)))
end Lw
namespace Lw
open PySem PySem.Spec PyProof.Rows L2 Evl Wv TL
/-! ### what is written is read (no program) -/
theorem spl1_hit {s : Nat} : ∀ {p acc : List Nat} {r : List Nat}, s ∉ p → spl [s] 0 acc (p ++ s :: r) = (acc ++ p) :: spl [s] 0 [] r
  | [], acc, r, _ => by
    have hp : pre [s] (s :: r) = true := pre_self [s] r
    rw [List.nil_append, spl_hit hp, List.append_nil]
    rfl
  | c :: p, acc, r, h => by
    have hc : c ≠ s := fun e => h (by rw [e]; exact List.mem_cons_self ..)
    rw [List.cons_append, spl_miss (pre_of_head [] _ hc), spl1_hit fun z => h (List.mem_cons_of_mem _ z), List.append_assoc]
    rfl
theorem spl1_last {s : Nat} : ∀ {p acc : List Nat}, s ∉ p → spl [s] 0 acc p = [acc ++ p]
  | [], acc, _ => by rw [spl_nil, List.append_nil]
  | c :: p, acc, h => by
    have hc : c ≠ s := fun e => h (by rw [e]; exact List.mem_cons_self ..)
    rw [spl_miss (pre_of_head [] _ hc), spl1_last fun z => h (List.mem_cons_of_mem _ z), List.append_assoc]
    rfl
theorem par1_hit {s : Nat} : ∀ {p acc : List Nat} {r : List Nat}, s ∉ p → par [s] acc (p ++ s :: r) = some (acc ++ p, r)
  | [], acc, r, _ => by
    have hp : pre [s] (s :: r) = true := pre_self [s] r
    rw [List.nil_append, par_hit hp, List.append_nil]
    rfl
  | c :: p, acc, r, h => by
    have hc : c ≠ s := fun e => h (by rw [e]; exact List.mem_cons_self ..)
    rw [List.cons_append, par_miss (pre_of_head [] _ hc), par1_hit fun z => h (List.mem_cons_of_mem _ z), List.append_assoc]
    rfl
theorem par1_none {s : Nat} : ∀ {p acc : List Nat}, s ∉ p → par [s] acc p = none
  | [], acc, _ => rfl
  | c :: p, acc, h => by
    have hc : c ≠ s := fun e => h (by rw [e]; exact List.mem_cons_self ..)
    rw [par_miss (pre_of_head [] _ hc), par1_none fun z => h (List.mem_cons_of_mem _ z)]
theorem spl_joinL {s : Nat} : ∀ {ps : List (List Nat)}, ps ≠ [] → (∀ p ∈ ps, s ∉ p) → spl [s] 0 [] (joinL [s] ps) = ps
  | [], h, _ => absurd rfl h
  | [p], _, h => by
    show spl [s] 0 [] p = [p]
    rw [spl1_last (h p (List.mem_cons_self ..))]
    rfl
  | p :: q :: r, _, h => by
    show spl [s] 0 [] (p ++ ([s] ++ joinL [s] (q :: r))) = _
    rw [List.singleton_append, spl1_hit (h p (List.mem_cons_self ..)), spl_joinL (by simp) fun x hx => h x (List.mem_cons_of_mem _ hx)]
    rfl
/-- lines, each with a line feed -/
theorem spl_flat {s : Nat} : ∀ {ps : List (List Nat)}, (∀ p ∈ ps, s ∉ p) → spl [s] 0 [] (joinL [] (ps.map fun p => p ++ [s])) = ps ++ [[]]
  | [], _ => rfl
  | [p], h => by
    show spl [s] 0 [] (p ++ [s]) = _
    rw [spl1_hit (h p (List.mem_cons_self ..))]
    rfl
  | p :: q :: r, h => by
    show spl [s] 0 [] ((p ++ [s]) ++ ([] ++ joinL [] ((q :: r).map fun p => p ++ [s]))) = _
    rw [List.nil_append, List.append_assoc, List.singleton_append, spl1_hit (h p (List.mem_cons_self ..)), spl_flat fun x hx => h x (List.mem_cons_of_mem _ hx)]
    rfl
/-- no such sign in words -/
theorem word_no {z : Str} (h : wordD (.str z) = true) {s : Nat} (hs : isLt s = false) : s ∉ tl z := fun q => by
  rw [word_lt h s q] at hs
  cases hs
theorem lt10 : isLt 10 = false := by decide +kernel
theorem lt32 : isLt 32 = false := by decide +kernel
theorem lt59 : isLt 59 = false := by decide +kernel
theorem lt64 : isLt 64 = false := by decide +kernel
theorem txT_no {n : Nat} {t : Dt} (h : cg n t = true) {s : Nat} (hs : isLt s = false) (h1 : s ≠ 40 ∧ s ≠ 41 ∧ s ≠ 44) : s ∉ txT n t := fun q => by
  rcases txT_sg n t h s q with e | e | e | e
  · rw [e] at hs; cases hs
  · exact h1.1 e
  · exact h1.2.1 e
  · exact h1.2.2 e
theorem joinL_no {s a : Nat} (hsa : s ≠ a) : ∀ {ps : List (List Nat)}, (∀ p ∈ ps, s ∉ p) → s ∉ joinL [a] ps
  | [], _ => fun q => by cases q
  | [p], h => h p (List.mem_cons_self ..)
  | p :: q :: r, h => fun z => by
    have z : s ∈ p ++ ([a] ++ joinL [a] (q :: r)) := z
    rcases List.mem_append.mp z with z | z
    · exact h p (List.mem_cons_self ..) z
    · rcases List.mem_append.mp z with z | z
      · exact hsa (List.mem_singleton.mp z)
      · exact joinL_no hsa (fun x hx => h x (List.mem_cons_of_mem _ hx)) z
theorem wtx_no {x : Wi} (h : TxW x) {s : Nat} (hs : isLt s = false) (h1 : s ≠ 40 ∧ s ≠ 41 ∧ s ≠ 44 ∧ s ≠ 59 ∧ s ≠ 64) : s ∉ wtx x := fun q => by
  unfold wtx at q
  rcases List.mem_append.mp q with q | q
  · exact word_no h.w hs q
  · split at q
    · cases q
    · rcases List.mem_cons.mp q with q | q
      · exact h1.2.2.2.2 q
      · refine joinL_no h1.2.2.2.1 (fun p hp => ?_) q
        obtain ⟨t, ht, rfl⟩ := List.mem_map.mp hp
        exact txT_no (h.t t ht).1 hs ⟨h1.1, h1.2.1, h1.2.2.1⟩
theorem RTd_txt {t : Dt} (h : cg 7 t = true) : RTd 24 (.str (mkS (txT 7 t))) = t := by
  unfold RTd
  dsimp only
  have := RP_txt 7 24 t h (by decide) [] fun c z => by cases z
  rw [List.append_nil] at this
  rw [tl_mkS, this]
  rfl
theorem RF_txt {ts : List Dt} (hne : ts ≠ []) (h : ∀ t ∈ ts, cg 7 t = true) : RF (joinL [59] (ts.map (txT 7))) = ts := by
  unfold RF
  rw [spl_joinL (fun z => hne (List.map_eq_nil_iff.mp z)) fun p hp => by
    obtain ⟨t, ht, rfl⟩ := List.mem_map.mp hp
    exact txT_no (h t ht) lt59 (by decide), List.map_map]
  have : ts.map ((fun l => RTd 24 (.str (mkS l))) ∘ txT 7) = ts.map id := List.map_congr_left fun t ht => RTd_txt (h t ht)
  rw [this, List.map_id]
theorem cg_nonN {n : Nat} {t : Dt} (h : cg n t = true) : isNon t = false := by
  obtain ⟨k, e, ht⟩ := cg_inv h
  rcases ht with ⟨y, rfl, _⟩ | ⟨y, xs, rfl, _⟩ <;> rfl
theorem RW_txt {x : Wi} (h : TxW x) : RW (wtx x) = some x := by
  obtain ⟨b, ts⟩ := x
  have hw : wordD (.str b) = true := h.w
  have ht : ∀ t ∈ ts, cg 7 t = true := fun t q => (h.t t q).1
  cases ts with
  | nil =>
    have e0 : wtx (b, []) = tl b := List.append_nil _
    unfold RW
    rw [e0, par1_none (word_no hw lt64)]
    dsimp only
    rw [mkS_tl, if_pos hw]
  | cons t ts =>
    have e0 : wtx (b, t :: ts) = tl b ++ 64 :: joinL [59] ((t :: ts).map (txT 7)) := rfl
    unfold RW
    rw [e0, par1_hit (word_no hw lt64)]
    dsimp only
    rw [List.nil_append, mkS_tl, RF_txt (by simp) ht, if_pos]
    refine ⟨hw, ?_, List.any_eq_false.mpr fun x hx => by rw [cg_nonN (ht x hx)]; exact Bool.false_ne_true⟩
    cases e : joinL [59] ((t :: ts).map (txT 7)) with
    | cons => rfl
    | nil =>
      exfalso
      have h1 := txT_ne (ht t (List.mem_cons_self ..))
      cases ts with
      | nil => exact h1 e
      | cons u us =>
        have e : txT 7 t ++ ([59] ++ joinL [59] ((u :: us).map (txT 7))) = [] := e
        exact h1 (List.append_eq_nil_iff.mp e).1
theorem rwD_txt {x : Wi} (h : TxW x) : rwD (.str (mkS (wtx x))) = wD x := by
  unfold rwD
  dsimp only
  rw [tl_mkS, RW_txt h]
/-- words of a line are read again -/
theorem wds_lnJ {ws : List Str} (hne : ws ≠ []) (h : ∀ u ∈ ws, 32 ∉ tl u) : wds (lnJ ws) = ws := by
  have eS : wds (lnJ ws) = (spl [32] 0 [] (tl (lnJ ws))).map mkS := split1_eq (by decide +kernel) (by decide +kernel)
  rw [eS]
  unfold lnJ
  rw [join_tl, show tl (Str.ofString " ") = [32] by decide +kernel, spl_joinL (fun z => hne (List.map_eq_nil_iff.mp z)) fun p hp => by
    obtain ⟨u, hu, rfl⟩ := List.mem_map.mp hp
    exact h u hu, List.map_map]
  have : ws.map (mkS ∘ tl) = ws.map id := List.map_congr_left fun u _ => mkS_tl u
  rw [this, List.map_id]
theorem lns_flat {ls : List Str} (h : ∀ l ∈ ls, 10 ∉ tl l) : lns (Txt.join (Str.ofString "") (ls.map fun l => l ++ Str.ofString "\n")) = ls ++ [Str.ofString ""] := by
  have eS : ∀ z : Str, lns z = (spl [10] 0 [] (tl z)).map mkS := fun z => split1_eq (by decide +kernel) (by decide +kernel)
  rw [eS, join_tl, show tl (Str.ofString "") = [] by decide +kernel, List.map_map]
  have e1 : ls.map (tl ∘ fun l => l ++ Str.ofString "\n") = (ls.map tl).map fun p => p ++ [10] := by
    rw [List.map_map]
    refine List.map_congr_left fun l _ => ?_
    show tl (l ++ Str.ofString "\n") = tl l ++ [10]
    rw [tl_append, show tl (Str.ofString "\n") = [10] by decide +kernel]
  rw [e1, spl_flat fun p hp => by
    obtain ⟨u, hu, rfl⟩ := List.mem_map.mp hp
    exact h u hu, List.map_append, List.map_map]
  have : ls.map (mkS ∘ tl) = ls.map id := List.map_congr_left fun u _ => mkS_tl u
  rw [this, List.map_id]
  congr 1
theorem joinL_no2 {s : Nat} {a : List Nat} (hsa : s ∉ a) : ∀ {ps : List (List Nat)}, (∀ p ∈ ps, s ∉ p) → s ∉ joinL a ps
  | [], _ => fun q => by cases q
  | [p], h => h p (List.mem_cons_self ..)
  | p :: q :: r, h => fun z => by
    have z : s ∈ p ++ (a ++ joinL a (q :: r)) := z
    rcases List.mem_append.mp z with z | z
    · exact h p (List.mem_cons_self ..) z
    · rcases List.mem_append.mp z with z | z
      · exact hsa z
      · exact joinL_no2 hsa (fun x hx => h x (List.mem_cons_of_mem _ hx)) z
theorem lnJ_no {ws : List Str} (h : ∀ u ∈ ws, 10 ∉ tl u) : 10 ∉ tl (lnJ ws) := by
  unfold lnJ
  rw [join_tl]
  exact joinL_no2 (by decide +kernel) fun p hp => by
    obtain ⟨u, hu, rfl⟩ := List.mem_map.mp hp
    exact h u hu
/-- signs of the words of lines -/
theorem bxL_no {n : Str} {b : Dt} {ws : List Wi} (hn : wordD (.str n) = true) (h : TxB b ws) : ∀ u ∈ bxL n b, 10 ∉ tl u ∧ 32 ∉ tl u := by
  cases h with
  | inp z hz =>
    intro u hu
    have hu : u ∈ [inS, n, z] := hu
    simp only [List.mem_cons, List.not_mem_nil, or_false] at hu
    rcases hu with e | e | e <;> rw [e]
    · decide +kernel
    · exact ⟨word_no hn lt10, word_no hn lt32⟩
    · exact ⟨word_no hz lt10, word_no hz lt32⟩
  | op z ws hz hl hw =>
    intro u hu
    have hu : u ∈ [opS, n, z] ++ (ws.map wD).map wtD := hu
    rcases List.mem_append.mp hu with hu | hu
    · simp only [List.mem_cons, List.not_mem_nil, or_false] at hu
      rcases hu with e | e | e <;> rw [e]
      · decide +kernel
      · exact ⟨word_no hn lt10, word_no hn lt32⟩
      · exact ⟨word_no hz lt10, word_no hz lt32⟩
    · rw [List.map_map] at hu
      obtain ⟨x, hx, rfl⟩ := List.mem_map.mp hu
      exact ⟨wtx_no (hw x hx) lt10 (by decide), wtx_no (hw x hx) lt32 (by decide)⟩
theorem otL_no {n : Str} {x : Wi} (hn : wordD (.str n) = true) (h : TxW x) : ∀ u ∈ otL n (wD x), 10 ∉ tl u ∧ 32 ∉ tl u := by
  intro u hu
  have hu : u ∈ [outS, n, mkS (wtx x)] := hu
  simp only [List.mem_cons, List.not_mem_nil, or_false] at hu
  rcases hu with e | e | e <;> rw [e]
  · decide +kernel
  · exact ⟨word_no hn lt10, word_no hn lt32⟩
  · exact ⟨wtx_no h lt10 (by decide), wtx_no h lt32 (by decide)⟩
theorem bxL_ne {n : Str} {b : Dt} {ws : List Wi} (h : TxB b ws) : bxL n b ≠ [] := by
  obtain ⟨a, c, r, _, e⟩ := h.sh n
  rw [e]
  simp
/-- a box's line is read -/
theorem TLn_bx {n : Str} {b : Dt} {ws : List Wi} (hn : wordD (.str n) = true) (h : TxB b ws) {X : List (Key × Dt)} (hg : gek n X = false) : TLn (bxL n b) X [] = some (dpt X (.inr n) b, []) := by
  cases h with
  | inp z hz =>
    show TLn [inS, n, z] X [] = _
    unfold TLn
    dsimp only
    rw [if_neg (by rw [hn]; decide), if_neg (by
      rw [if_neg (by decide +kernel)]
      intro q
      rcases q with q | q
      · rw [hg] at q; cases q
      · exact absurd q.2 (by decide)), if_pos ⟨rfl, rfl, hz⟩]
  | op z ws hz hl hw =>
    show TLn (opS :: n :: z :: (ws.map wD).map wtD) X [] = _
    have et : tlW opS z ((ws.map wD).map wtD) = ws.map wD := by
      unfold tlW
      rw [if_neg (by decide +kernel), List.map_map, List.map_map]
      refine List.map_congr_left fun x hx => ?_
      exact rwD_txt (hw x hx)
    unfold TLn
    dsimp only
    rw [et, if_neg (by rw [hn]; decide), if_neg (by
      rw [if_neg (by decide +kernel)]
      intro q
      rcases q with q | q
      · rw [hg] at q; cases q
      · exact absurd q.2 (by decide)), if_neg (by
      intro q
      exact absurd q.1 (by decide +kernel)), if_neg (by
      rw [List.any_map]
      intro q
      obtain ⟨x, _, hx⟩ := List.any_eq_true.mp q
      cases hx), if_neg (by
      intro q
      exact absurd q.1 (by decide +kernel)), if_neg (by
      rw [List.length_map]
      intro q
      rcases q with q | q | q
      · exact q rfl
      · rw [hz] at q; cases q
      · exact q hl)]
theorem TLn_ot {n : Str} {x : Wi} (hn : wordD (.str n) = true) (h : TxW x) {X Y : List (Key × Dt)} (hg : gek n Y = false) : TLn (otL n (wD x)) X Y = some (X, dpt Y (.inr n) (wD x)) := by
  show TLn [outS, n, mkS (wtx x)] X Y = _
  have et : tlW outS (mkS (wtx x)) [] = [wD x] := by
    unfold tlW
    rw [if_pos rfl]
    show [rwD (.str (mkS (wtx x)))] = _
    rw [rwD_txt h]
  unfold TLn
  dsimp only
  rw [et, if_neg (by rw [hn]; decide), if_neg (by
    rw [if_pos rfl]
    intro q
    rcases q with q | q
    · rw [hg] at q; cases q
    · exact q.1 rfl), if_neg (by
    intro q
    exact absurd q.1 (by decide +kernel)), if_neg (fun q => by cases q), if_pos ⟨rfl, rfl⟩]
  rfl
theorem srD_putX {bt : List (Key × Dt)} {ys : List Str} {n : Str} (h : n ∉ ys) {v : Dt} (hv : dlk bt (.inr n) = some v) : dpt (srD bt ys) (.inr n) v = srD bt (ys ++ [n]) := by
  rw [dpt_new]
  · unfold srD
    rw [List.map_append, List.map_cons, hv]
    rfl
  · rw [srD_ks]
    intro q
    obtain ⟨m, hm, e⟩ := List.mem_map.mp q
    cases e
    exact h hm
theorem gek_srD {bt : List (Key × Dt)} {ys : List Str} {n : Str} (h : ∀ y ∈ ys, y.cps.toList < n.cps.toList) : gek n (srD bt ys) = false := by
  rw [gek_ks (srD_ks bt ys)]
  exact List.any_eq_false.mpr fun y hy => by simp [h y hy]
/-- sorted and unlike: each before those that follow -/
theorem srt_lt {ys : List Str} (hd : ys.Nodup) (hs : sortedS ys = true) : ys.Pairwise fun a b => a.cps.toList < b.cps.toList := by
  induction ys with
  | nil => exact .nil
  | cons y ys ih =>
    rw [List.nodup_cons] at hd
    refine .cons (fun x hx => ?_) (ih hd.2 (rise_sorted (p := y) hs))
    have h1 : leS y x := rise_le (p := y) hs x hx
    rcases Classical.em (y.cps.toList < x.cps.toList) with h | h
    · exact h
    · exact absurd (leS_anti h1 (List.not_lt.mp h)) fun e => hd.1 (by rw [e]; exact hx)
theorem OfL_bx {bt ot : List (Key × Dt)} {ns ons : List Str} (hT : TxT bt ot ns ons) : ∀ (zs ys : List Str) (i : Nat), (∀ n ∈ zs, n ∈ ns) → (ys ++ zs).Pairwise (fun a b => a.cps.toList < b.cps.toList) → OfL (zs.map (bxLn bt)) i (srD bt ys) [] = .inr (srD bt (ys ++ zs), [])
  | [], ys, i, _, _ => by rw [List.append_nil]; rfl
  | n :: zs, ys, i, hm, hp => by
    obtain ⟨hw, b, ws, h1, h2⟩ := hT.hb n (hm n (List.mem_cons_self ..))
    have eB : bxLn bt n = lnJ (bxL n b) := by unfold bxLn; rw [h1]; rfl
    have hno := bxL_no hw h2
    have hlt : ∀ y ∈ ys, y.cps.toList < n.cps.toList := fun y hy => (List.pairwise_append.mp hp).2.2 y hy n (List.mem_cons_self ..)
    rw [List.map_cons, OfL_cons, eB, wds_lnJ (bxL_ne h2) (fun u hu => (hno u hu).2), TLn_bx hw h2 (gek_srD hlt)]
    dsimp only
    rw [srD_putX (fun q => absurd (hlt n q) (List.lt_irrefl _)) h1, OfL_bx hT zs (ys ++ [n]) (i + 1) (fun x hx => hm x (List.mem_cons_of_mem _ hx)) (by rw [List.append_assoc]; exact hp), List.append_assoc]
    rfl
theorem OfL_ot {bt ot : List (Key × Dt)} {ns ons : List Str} (hT : TxT bt ot ns ons) (X : List (Key × Dt)) : ∀ (zs ys : List Str) (i : Nat), (∀ n ∈ zs, n ∈ ons) → (ys ++ zs).Pairwise (fun a b => a.cps.toList < b.cps.toList) → OfL (zs.map (otLn ot)) i X (srD ot ys) = .inr (X, srD ot (ys ++ zs))
  | [], ys, i, _, _ => by rw [List.append_nil]; rfl
  | n :: zs, ys, i, hm, hp => by
    obtain ⟨hw, x, h1, h2⟩ := hT.ho n (hm n (List.mem_cons_self ..))
    have eB : otLn ot n = lnJ (otL n (wD x)) := by unfold otLn; rw [h1]; rfl
    have hno := otL_no hw h2
    have hlt : ∀ y ∈ ys, y.cps.toList < n.cps.toList := fun y hy => (List.pairwise_append.mp hp).2.2 y hy n (List.mem_cons_self ..)
    rw [List.map_cons, OfL_cons, eB, wds_lnJ (by unfold otL; simp) (fun u hu => (hno u hu).2), TLn_ot hw h2 (gek_srD hlt)]
    dsimp only
    rw [srD_putX (fun q => absurd (hlt n q) (List.lt_irrefl _)) h1, OfL_ot hT X zs (ys ++ [n]) (i + 1) (fun x hx => hm x (List.mem_cons_of_mem _ hx)) (by rw [List.append_assoc]; exact hp), List.append_assoc]
    rfl
/-- a net's text is read as its tables in the order of their names -/
theorem OfT_txN {bt ot : List (Key × Dt)} {ns ons ys zs : List Str} (hT : TxT bt ot ns ons) (hy : ys.Perm ns) (hz : zs.Perm ons) (sy : sortedS ys = true) (sz : sortedS zs = true) (hne : ns ≠ []) : lns (txN bt ot ys zs) = txL bt ot ys zs ++ [Str.ofString ""] ∧ OfT (txN bt ot ys zs) = .inr (srD bt ys, srD ot zs) := by
  have hno : ∀ l ∈ txL bt ot ys zs, 10 ∉ tl l := fun l hl => by
    rcases List.mem_append.mp hl with hl | hl
    · obtain ⟨n, hn, rfl⟩ := List.mem_map.mp hl
      obtain ⟨hw, b, ws, h1, h2⟩ := hT.hb n (hy.mem_iff.mp hn)
      unfold bxLn
      rw [h1]
      exact lnJ_no fun u hu => (bxL_no hw h2 u hu).1
    · obtain ⟨n, hn, rfl⟩ := List.mem_map.mp hl
      obtain ⟨hw, x, h1, h2⟩ := hT.ho n (hz.mem_iff.mp hn)
      unfold otLn
      rw [h1]
      exact lnJ_no fun u hu => (otL_no hw h2 u hu).1
  have hL : lns (txN bt ot ys zs) = txL bt ot ys zs ++ [Str.ofString ""] := lns_flat hno
  refine ⟨hL, ?_⟩
  unfold OfT
  rw [hL, List.dropLast_concat, List.getLast?_concat]
  have hlen : 0 < (txL bt ot ys zs).length := by
    unfold txL
    rw [List.length_append, List.length_map, hy.length_eq]
    have : 0 < ns.length := List.length_pos_iff.mpr hne
    omega
  have e1 : OfL (txL bt ot ys zs) 0 [] [] = .inr (srD bt ys, srD ot zs) := by
    unfold txL
    have b1 := OfL_bx hT ys [] 0 (fun n hn => hy.mem_iff.mp hn) (srt_lt (hy.nodup_iff.mpr hT.nb) sy)
    rw [List.nil_append] at b1
    have b2 := OfL_ot hT (srD bt ys) zs [] (0 + (ys.map (bxLn bt)).length) (fun n hn => hz.mem_iff.mp hn) (srt_lt (hz.nodup_iff.mpr hT.no) sz)
    rw [List.nil_append] at b2
    rw [OfL_app, show OfL (ys.map (bxLn bt)) 0 [] [] = OfL (ys.map (bxLn bt)) 0 (srD bt []) [] from rfl, b1]
    dsimp only
    exact b2
  rw [e1]
  dsimp only
  rw [if_neg]
  intro q
  rcases q with q | q
  · exact q rfl
  · rw [List.length_append] at q
    simp only [List.length_cons, List.length_nil] at q
    omega
end Lw
namespace Lw
open PySem PySem.Spec PyProof.Rows L2 Evl Wv TL
/-! ### texts of drawn nets (no program) -/
theorem joinL_cnt (k s : Nat) (hs : k ≠ s) : ∀ ps : List (List Nat), (joinL [s] ps).count k = (ps.map fun p => p.count k).sum
  | [] => rfl
  | [p] => by show p.count k = p.count k + 0; omega
  | p :: q :: r => by
    show (p ++ ([s] ++ joinL [s] (q :: r))).count k = p.count k + ((q :: r).map fun p => p.count k).sum
    rw [List.count_append, List.count_append, joinL_cnt k s hs (q :: r), show [s].count k = 0 by rw [List.count_singleton]; simp [Ne.symm hs]]
    omega
theorem word_c0 {z : Str} (h : wordD (.str z) = true) : (tl z).count 40 = 0 := List.count_eq_zero.mpr (word_no h lt40)
theorem txT_c40 : ∀ (n : Nat) (t : Dt), cg n t = true → 2 * (txT n t).count 40 + 1 ≤ szB t := fun n => by
  induction n with
  | zero => intro t h; obtain ⟨_, e, _⟩ := cg_inv h; cases e
  | succ n ih =>
    intro t h
    obtain ⟨k, e, h⟩ := cg_inv h
    cases e
    rcases h with ⟨z, rfl, hz⟩ | ⟨z, xs, rfl, hz, hl, hx⟩
    · show 2 * (tl z).count 40 + 1 ≤ szB (.str z)
      rw [word_c0 hz, show szB (.str z) = 1 by unfold szB; rfl]
      omega
    · have hs : ∀ ys : List Dt, (∀ y ∈ ys, cg n y = true) → 2 * (((ys.map (txT n)).map fun p => p.count 40).sum) + ys.length ≤ szBs ys := fun ys => by
        induction ys with
        | nil => intro _; exact Nat.zero_le _
        | cons y ys ih2 =>
          intro hy
          have h1 := ih y (hy y (List.mem_cons_self ..))
          have h2 := ih2 fun x hx => hy x (List.mem_cons_of_mem _ hx)
          rw [szBs]
          show 2 * ((txT n y).count 40 + ((ys.map (txT n)).map fun p => p.count 40).sum) + (ys.length + 1) ≤ _
          omega
      have h1 := hs xs hx
      have e1 : szB (.tup (.str z :: xs)) = 1 + (1 + szBs xs) := by
        rw [szB, szBs, show szB (.str z) = 1 by unfold szB; rfl]
      show 2 * (tl z ++ 40 :: (joinL [44] (xs.map (txT n)) ++ [41])).count 40 + 1 ≤ _
      rw [List.count_append, List.count_cons_self, List.count_append, word_c0 hz, joinL_cnt 40 44 (by decide), e1, show [41].count 40 = 0 by decide]
      omega
theorem wtx_c40 {x : Wi} (h : TxW x) : (wtx x).count 40 ≤ 7 * x.2.length := by
  unfold wtx
  rw [List.count_append, word_c0 h.w]
  split
  · exact Nat.zero_le _
  · rw [List.count_cons_of_ne (by decide), joinL_cnt 40 59 (by decide), List.map_map]
    have := sum_le (f := ((fun p : List Nat => p.count 40) ∘ txT 7)) (k := 7) (l := x.2) fun t ht => by
      have h1 := txT_c40 7 t (h.t t ht).1
      have h2 := (h.t t ht).2
      show (txT 7 t).count 40 ≤ 7
      omega
    omega
theorem bxL_c40 {n : Str} {b : Dt} {ws : List Wi} {m : Nat} (hn : wordD (.str n) = true) (h : TxB b ws) (hm : ∀ x ∈ ws, x.2.length ≤ m) : ∀ u ∈ bxL n b, (tl u).count 40 ≤ 7 * m := by
  cases h with
  | inp z hz =>
    intro u hu
    have hu : u ∈ [inS, n, z] := hu
    simp only [List.mem_cons, List.not_mem_nil, or_false] at hu
    rcases hu with e | e | e <;> rw [e]
    · rw [show (tl inS).count 40 = 0 by decide +kernel]; exact Nat.zero_le _
    · rw [word_c0 hn]; exact Nat.zero_le _
    · rw [word_c0 hz]; exact Nat.zero_le _
  | op z ws hz hl hw =>
    intro u hu
    have hu : u ∈ [opS, n, z] ++ (ws.map wD).map wtD := hu
    rcases List.mem_append.mp hu with hu | hu
    · simp only [List.mem_cons, List.not_mem_nil, or_false] at hu
      rcases hu with e | e | e <;> rw [e]
      · rw [show (tl opS).count 40 = 0 by decide +kernel]; exact Nat.zero_le _
      · rw [word_c0 hn]; exact Nat.zero_le _
      · rw [word_c0 hz]; exact Nat.zero_le _
    · rw [List.map_map] at hu
      obtain ⟨x, hx, rfl⟩ := List.mem_map.mp hu
      exact Nat.le_trans (wtx_c40 (hw x hx)) (Nat.mul_le_mul_left _ (hm x hx))
theorem otL_c40 {n : Str} {x : Wi} {m : Nat} (hn : wordD (.str n) = true) (h : TxW x) (hm : x.2.length ≤ m) : ∀ u ∈ otL n (wD x), (tl u).count 40 ≤ 7 * m := by
  intro u hu
  have hu : u ∈ [outS, n, mkS (wtx x)] := hu
  simp only [List.mem_cons, List.not_mem_nil, or_false] at hu
  rcases hu with e | e | e <;> rw [e]
  · rw [show (tl outS).count 40 = 0 by decide +kernel]; exact Nat.zero_le _
  · rw [word_c0 hn]; exact Nat.zero_le _
  · exact Nat.le_trans (wtx_c40 h) (Nat.mul_le_mul_left _ hm)
/-- written tables whose wires hold at most m -/
structure TxM (m : Nat) (bt ot : List (Key × Dt)) (ns ons : List Str) : Prop extends TxT bt ot ns ons where
  mb : ∀ n b ws, dlk bt (.inr n) = some b → TxB b ws → ∀ x ∈ ws, x.2.length ≤ m
  mo : ∀ n (x : Wi), dlk ot (.inr n) = some (wD x) → x.2.length ≤ m
theorem TxM.c40 {m : Nat} {bt ot : List (Key × Dt)} {ns ons ys zs : List Str} (h : TxM m bt ot ns ons) (hy : ys.Perm ns) (hz : zs.Perm ons) : ∀ l ∈ txL bt ot ys zs, ∀ u ∈ wds l, (tl u).count 40 ≤ 7 * m := by
  intro l hl
  rcases List.mem_append.mp hl with hl | hl
  · obtain ⟨n, hn, rfl⟩ := List.mem_map.mp hl
    obtain ⟨hw, b, ws, h1, h2⟩ := h.hb n (hy.mem_iff.mp hn)
    have eB : bxLn bt n = lnJ (bxL n b) := by unfold bxLn; rw [h1]; rfl
    rw [eB, wds_lnJ (bxL_ne h2) fun u hu => (bxL_no hw h2 u hu).2]
    exact bxL_c40 hw h2 (h.mb n b ws h1 h2)
  · obtain ⟨n, hn, rfl⟩ := List.mem_map.mp hl
    obtain ⟨hw, x, h1, h2⟩ := h.ho n (hz.mem_iff.mp hn)
    have eB : otLn ot n = lnJ (otL n (wD x)) := by unfold otLn; rw [h1]; rfl
    rw [eB, wds_lnJ (by unfold otL; simp) fun u hu => (otL_no hw h2 u hu).2]
    exact otL_c40 hw h2 (h.mo n x h1)
theorem os_len (ot : List (Key × Dt)) : (osOf ot).length ≤ 2 ∧ ∀ n ∈ osOf ot, n ∈ (["o", "r"] : List Str) := by
  unfold osOf
  split <;> exact ⟨by decide, by decide⟩
theorem DrawnM.txm {M ops : Nat} {bt ot : List (Key × Dt)} {row : List Str} (D : DrawnM M ops bt ot row) (hM : 2 ≤ M ∧ M ≤ 8) (ho : ops ≤ 4) : TxM M bt ot row (osOf ot) := by
  have G := (D.mono hM.2).good (by omega)
  have hw : ∀ n ∈ row, wordD (.str n) = true := fun n hn => bxN_word (D.nm n hn)
  have wx : ∀ {x : Wi}, x.1 ∈ row → (∀ t ∈ x.2, cs t = true) → x.2.length ≤ 8 → TxW x := fun h1 h2 h3 => ⟨hw _ h1, fun t ht => ⟨cs_cg (h2 t ht), cs_sz (h2 t ht)⟩, h3⟩
  have box : ∀ {n : Str} {b : Dt}, dlk bt (.inr n) = some b → ∃ ws, TxB b ws ∧ ∀ x ∈ ws, x.2.length ≤ M := fun {n b} hb => by
    obtain ⟨i, hi⟩ := List.mem_iff_getElem?.mp (dlk_mem hb)
    have hd : DBoxC cs M row i b := D.bx i _ hi
    cases hd with
    | inp z h => exact ⟨[], .inp z (by rcases h with rfl | rfl <;> decide +kernel), fun x hx => by cases hx⟩
    | op f ws ha hw2 =>
      obtain ⟨_, h2, h3⟩ := arF_ok ha
      refine ⟨ws, .op f ws h2 h3 fun x hx => ?_, fun x hx => (hw2 x hx).2.1⟩
      obtain ⟨h4, h5, j, h6, _⟩ := hw2 x hx
      exact wx (List.mem_of_getElem? h6) h4 (by omega)
  refine ⟨⟨D.ks, D.nd, fun n hn => ⟨hw n hn, ?_⟩, G.go.ks, G.go.nd, fun n hn => ⟨G.go.wd n hn, ?_⟩, by have := D.len.2; omega, (os_len ot).1⟩, fun n b ws hb h => ?_, fun n x hx => ?_⟩
  · obtain ⟨b, hb, _⟩ := G.toGB.at hn
    obtain ⟨ws, h1, _⟩ := box hb
    exact ⟨b, ws, hb, h1⟩
  · have : (dlk ot (.inr n)).isSome = true := by rw [dlk_ks G.go.ks]; exact decide_eq_true hn
    obtain ⟨t, ht⟩ := Option.isSome_iff_exists.mp this
    obtain ⟨x, e, h1, h2, h3⟩ := D.ows _ (dlk_mem ht)
    have e : t = wD x := e
    exact ⟨x, by rw [ht, e], wx h1 h2 (by omega)⟩
  · obtain ⟨ws', h1, h2⟩ := box hb
    have e : ws.map wD = ws'.map wD := by
      have := h.kb.wob
      rw [h1.kb.wob] at this
      exact (Dt.lst.inj this).symm
    have e2 : ws = ws' := by
      have := congrArg (List.filterMap unW) e
      rwa [unW_map, unW_map] at this
    rw [e2]
    exact h2
  · obtain ⟨y, e, _, _, h3⟩ := D.ows _ (dlk_mem hx)
    have e : wD x = wD y := e
    have : x = y := Option.some.inj (congrArg unW e)
    rw [this]
    omega
theorem TxT.perm {bt ot : List (Key × Dt)} {ns ons ys zs : List Str} (h : TxT bt ot ns ons) (hy : ys.Perm ns) (hz : zs.Perm ons) : TxT (srD bt ys) (srD ot zs) ys zs := by
  refine ⟨srD_ks bt ys, hy.nodup_iff.mpr h.nb, fun n hn => ?_, srD_ks ot zs, hz.nodup_iff.mpr h.no, fun n hn => ?_, by rw [hy.length_eq, hz.length_eq]; exact h.ln⟩
  · obtain ⟨h1, b, ws, h2, h3⟩ := h.hb n (hy.mem_iff.mp hn)
    exact ⟨h1, b, ws, srD_lk h.kb h.nb hy (hy.mem_iff.mp hn) h2, h3⟩
  · obtain ⟨h1, x, h2, h3⟩ := h.ho n (hz.mem_iff.mp hn)
    exact ⟨h1, x, srD_lk h.ko h.no hz (hz.mem_iff.mp hn) h2, h3⟩
theorem TxT.same {bt ot : List (Key × Dt)} {ns ons ys zs : List Str} (h : TxT bt ot ns ons) (hy : ys.Perm ns) (hz : zs.Perm ons) : txN (srD bt ys) (srD ot zs) ys zs = txN bt ot ys zs := by
  have e1 : ys.map (bxLn (srD bt ys)) = ys.map (bxLn bt) := List.map_congr_left fun n hn => by
    obtain ⟨h1, b, ws, h2, h3⟩ := h.hb n (hy.mem_iff.mp hn)
    unfold bxLn
    rw [h2, srD_lk h.kb h.nb hy (hy.mem_iff.mp hn) h2]
  have e2 : zs.map (otLn (srD ot zs)) = zs.map (otLn ot) := List.map_congr_left fun n hn => by
    obtain ⟨h1, x, h2, h3⟩ := h.ho n (hz.mem_iff.mp hn)
    unfold otLn
    rw [h2, srD_lk h.ko h.no hz (hz.mem_iff.mp hn) h2]
  unfold txN txL
  rw [e1, e2]
theorem lt_128 {c : Nat} (h : isLt c = true) : c < 128 := by
  unfold isLt at h
  have h := of_decide_eq_true h
  have : (LET.cps.toList).all (· < 128) = true := by decide +kernel
  exact of_decide_eq_true (List.all_eq_true.mp this c h)
theorem joinL_lt {a : List Nat} (ha : ∀ c ∈ a, c < 128) : ∀ {ps : List (List Nat)}, (∀ p ∈ ps, ∀ c ∈ p, c < 128) → ∀ c ∈ joinL a ps, c < 128
  | [], _ => fun c q => by cases q
  | [p], h => h p (List.mem_cons_self ..)
  | p :: q :: r, h => fun c z => by
    have z : c ∈ p ++ (a ++ joinL a (q :: r)) := z
    rcases List.mem_append.mp z with z | z
    · exact h p (List.mem_cons_self ..) c z
    · rcases List.mem_append.mp z with z | z
      · exact ha c z
      · exact joinL_lt ha (fun x hx => h x (List.mem_cons_of_mem _ hx)) c z
theorem wtx_lt {x : Wi} (h : TxW x) : ∀ c ∈ wtx x, c < 128 := fun c q => by
  unfold wtx at q
  rcases List.mem_append.mp q with q | q
  · exact lt_128 (word_lt h.w c q)
  · split at q
    · cases q
    · rcases List.mem_cons.mp q with q | q
      · omega
      · refine joinL_lt (fun c hc => by rw [List.mem_singleton.mp hc]; decide) (fun p hp c hc => ?_) c q
        obtain ⟨t, ht, rfl⟩ := List.mem_map.mp hp
        rcases txT_sg 7 t (h.t t ht).1 c hc with e | e | e | e
        · exact lt_128 e
        · omega
        · omega
        · omega
theorem bxL_lt {n : Str} {b : Dt} {ws : List Wi} (hn : wordD (.str n) = true) (h : TxB b ws) : ∀ u ∈ bxL n b, ∀ c ∈ tl u, c < 128 := by
  have wl : ∀ {z : Str}, wordD (.str z) = true → ∀ c ∈ tl z, c < 128 := fun h c hc => lt_128 (word_lt h c hc)
  cases h with
  | inp z hz =>
    intro u hu
    have hu : u ∈ [inS, n, z] := hu
    simp only [List.mem_cons, List.not_mem_nil, or_false] at hu
    rcases hu with e | e | e <;> rw [e]
    · decide +kernel
    · exact wl hn
    · exact wl hz
  | op z ws hz hl hw =>
    intro u hu
    have hu : u ∈ [opS, n, z] ++ (ws.map wD).map wtD := hu
    rcases List.mem_append.mp hu with hu | hu
    · simp only [List.mem_cons, List.not_mem_nil, or_false] at hu
      rcases hu with e | e | e <;> rw [e]
      · decide +kernel
      · exact wl hn
      · exact wl hz
    · rw [List.map_map] at hu
      obtain ⟨x, hx, rfl⟩ := List.mem_map.mp hu
      exact wtx_lt (hw x hx)
theorem otL_lt {n : Str} {x : Wi} (hn : wordD (.str n) = true) (h : TxW x) : ∀ u ∈ otL n (wD x), ∀ c ∈ tl u, c < 128 := by
  intro u hu
  have hu : u ∈ [outS, n, mkS (wtx x)] := hu
  simp only [List.mem_cons, List.not_mem_nil, or_false] at hu
  rcases hu with e | e | e <;> rw [e]
  · decide +kernel
  · exact fun c hc => lt_128 (word_lt hn c hc)
  · exact wtx_lt h
theorem lnJ_lt {ws : List Str} (h : ∀ u ∈ ws, ∀ c ∈ tl u, c < 128) : ∀ c ∈ tl (lnJ ws), c < 128 := by
  unfold lnJ
  rw [join_tl]
  exact joinL_lt (by decide +kernel) fun p hp => by
    obtain ⟨u, hu, rfl⟩ := List.mem_map.mp hp
    exact h u hu
theorem TxT.lt {bt ot : List (Key × Dt)} {ns ons ys zs : List Str} (h : TxT bt ot ns ons) (hy : ys.Perm ns) (hz : zs.Perm ons) : ∀ l ∈ txL bt ot ys zs, ∀ c ∈ TL.tl l, c < 128 := by
  intro l hl
  rcases List.mem_append.mp hl with hl | hl
  · obtain ⟨n, hn, rfl⟩ := List.mem_map.mp hl
    obtain ⟨hw, b, ws, h1, h2⟩ := h.hb n (hy.mem_iff.mp hn)
    unfold bxLn
    rw [h1]
    exact lnJ_lt (bxL_lt hw h2)
  · obtain ⟨n, hn, rfl⟩ := List.mem_map.mp hl
    obtain ⟨hw, x, h1, h2⟩ := h.ho n (hz.mem_iff.mp hn)
    unfold otLn
    rw [h1]
    exact lnJ_lt (otL_lt hw h2)
theorem TxT.sok {bt ot : List (Key × Dt)} {ns ons ys zs : List Str} (h : TxT bt ot ns ons) (hy : ys.Perm ns) (hz : zs.Perm ons) : PyData.strOk (txN bt ot ys zs) = true := by
  have : ∀ c ∈ TL.tl (txN bt ot ys zs), c < 128 := by
    unfold txN
    rw [join_tl]
    refine joinL_lt (by decide +kernel) fun p hp => ?_
    obtain ⟨u, hu, rfl⟩ := List.mem_map.mp hp
    obtain ⟨l, hl, rfl⟩ := List.mem_map.mp hu
    intro c hc
    rw [tl_append] at hc
    rcases List.mem_append.mp hc with hc | hc
    · exact h.lt hy hz l hl c hc
    · have : (TL.tl (Str.ofString "\n")).all (· < 128) = true := by decide +kernel
      exact of_decide_eq_true (List.all_eq_true.mp this c hc)
  unfold PyData.strOk
  rw [← Array.all_toList]
  refine List.all_eq_true.mpr fun c hc => ?_
  have := this c hc
  exact decide_eq_true (by omega)
end Lw
namespace Lw
open PySem PySem.Spec PyProof.Rows L2 Evl Wv TL
set_option hygiene false in
local macro_rules
  | `(tactic| ac_rfl) => `(tactic| repeat' (first | (with_reducible show Et _ _ _ _; first | with_reducible refine et_popAt (by with_unfolding_all rfl) ?_ | with_reducible refine et_var (by with_unfolding_all rfl) ?_ | with_reducible refine et_int ?_ | with_reducible refine et_str ?_ | with_reducible refine et_bl ?_ | with_reducible refine et_non ?_ | with_reducible refine et_andV ?_ | with_reducible refine et_orV ?_ | with_reducible refine et_notV ?_ | with_reducible refine et_if ?_ | with_reducible refine et_isStr ?_ | with_reducible refine et_isInt ?_ | with_reducible refine et_isBool ?_ | with_reducible refine et_isDict ?_ | with_reducible refine et_isList ?_ | with_reducible refine et_isTuple ?_ | with_reducible refine et_isLT ?_ | with_reducible refine et_tup ?_ | with_reducible refine et_neg ?_ | with_reducible refine et_ixO (by with_unfolding_all rfl) ?_ | with_reducible refine et_opL (by first | exact rop_ix | exact rop_eq | exact rop_ne | exact rop_in | exact rop_ni | exact rop_add | exact rop_sub | exact rop_mul | exact rop_lt | exact rop_le | exact rop_gt | exact rop_ge | exact rop_mod | exact rop_div | exact rop_isN | exact rop_notN) (by with_unfolding_all rfl) ?_ | with_reducible refine et_opRo (by first | exact rop_ix | exact rop_eq | exact rop_ne | exact rop_in | exact rop_ni | exact rop_add | exact rop_sub | exact rop_mul | exact rop_lt | exact rop_le | exact rop_gt | exact rop_ge | exact rop_mod | exact rop_div | exact rop_isN | exact rop_notN) (by with_unfolding_all rfl) ?_ | with_reducible refine et_op (by first | exact rop_ix | exact rop_eq | exact rop_ne | exact rop_in | exact rop_ni | exact rop_add | exact rop_sub | exact rop_mul | exact rop_lt | exact rop_le | exact rop_gt | exact rop_ge | exact rop_mod | exact rop_div | exact rop_isN | exact rop_notN) ?_ | with_reducible refine et_cbO (by first | exact rcl_len | exact rcl_int | exact rcl_sum | exact rcl_max | exact rcl_min | exact rcl_all | exact rcl_any) (by with_unfolding_all rfl) ?_ | with_reducible refine et_cb (by first | exact rcl_len | exact rcl_int | exact rcl_sum | exact rcl_max | exact rcl_min | exact rcl_all | exact rcl_any) ?_ | with_reducible refine et_chain (by first | exact rop_ix | exact rop_eq | exact rop_ne | exact rop_in | exact rop_ni | exact rop_add | exact rop_sub | exact rop_mul | exact rop_lt | exact rop_le | exact rop_gt | exact rop_ge | exact rop_mod | exact rop_div | exact rop_isN | exact rop_notN) (by first | exact rop_ix | exact rop_eq | exact rop_ne | exact rop_in | exact rop_ni | exact rop_add | exact rop_sub | exact rop_mul | exact rop_lt | exact rop_le | exact rop_gt | exact rop_ge | exact rop_mod | exact rop_div | exact rop_isN | exact rop_notN) ?_ | with_reducible refine et_dget2O (by with_unfolding_all rfl) ?_ | with_reducible refine et_dget2 ?_ | with_reducible refine et_call0 nolk ?_ | with_reducible refine et_call0 samelk ?_ | with_reducible refine et_sl ?_) | (with_reducible show Wd _ _ _ _; first | with_reducible refine wd_seq ?_ | with_reducible refine wd_if ?_ | with_reducible refine wd_ret ?_ | with_reducible refine wd_next ?_ | with_reducible refine wd_raise ?_ | with_reducible refine wd_dput ?_ | with_reducible refine wd_app (by with_unfolding_all rfl) ?_ | with_reducible refine wd_retN ?_) | (with_reducible show Ea _ _ _ _; first | with_reducible refine ea_nil ?_ | with_reducible refine ea_cons ?_) | (with_reducible show Eb _ _ _ _; first | with_reducible refine eb_or ?_ | with_reducible refine eb_and ?_ | with_reducible refine eb_not ?_ | with_reducible refine eb_B ?_ | with_reducible refine eb_test ?_ | with_reducible refine eb_yes ?_) | (with_reducible show Eo _ _ _ _; first | with_reducible refine eo_none ?_ | with_reducible refine eo_some ?_) | with_reducible refine isTyI (by first | with_unfolding_all rfl | assumption | exact pur_ok (by assumption)) ?_ | with_reducible refine iteT ?_ | with_reducible refine iteF ?_ | with_reducible refine bt (by first | with_unfolding_all rfl | assumption) ?_ | with_reducible refine bf (by first | with_unfolding_all rfl | assumption) ?_ | with_reducible refine nt (by first | with_unfolding_all rfl | assumption) ?_ | with_reducible refine nf (by first | with_unfolding_all rfl | assumption) ?_ | with_reducible refine fin_s ?_ | with_reducible refine fni_s ?_ | with_reducible refine fx0 (by first | with_unfolding_all rfl | assumption) ?_ | with_reducible refine fx1 (by first | with_unfolding_all rfl | assumption) ?_ | with_reducible refine fx2 (by first | with_unfolding_all rfl | assumption) ?_ | with_reducible refine fxlen (by first | with_unfolding_all rfl | assumption) ?_ | with_reducible refine fxit (by first | with_unfolding_all rfl | assumption) ?_ | with_reducible refine feq_i ?_ | with_reducible refine feq_s ?_ | with_reducible refine fne_i ?_ | with_reducible refine fne_s ?_ | with_reducible refine r1_i (by first | with_unfolding_all rfl | assumption | exact pur_ok (by assumption)) ?_ | with_reducible refine sclI (by with_unfolding_all rfl) ?_ | with_reducible refine lenI (by with_unfolding_all rfl) ?_ | with_reducible refine eI ?_ | with_reducible refine addI ?_ | with_reducible refine jI ?_ | with_reducible refine lenLst ?_ | with_reducible refine lenTup ?_ | with_reducible refine lenDct ?_ | with_reducible refine lenStr ?_ | with_reducible refine slL ?_ | with_reducible refine slT ?_ | with_reducible refine slS ?_ | with_reducible refine intI ?_ | with_reducible refine intB ?_ | with_reducible refine itsL ?_ | with_reducible refine itsT ?_ | with_reducible refine itdL ?_ | with_reducible refine itdT ?_ | with_reducible refine kdI ?_ | with_reducible refine kdS ?_ | with_reducible refine exOwn (by with_unfolding_all rfl) ?_ | with_reducible refine exOwnD (by with_unfolding_all rfl) ?_ | with_reducible refine exOwnL (by with_unfolding_all rfl) ?_))
/-! ### the law's texts of terms, wires, nets -/
section
variable {P : Program} {w : World} {K : PySem.W.Frag} {mg : Str → Option Value} {base : Heap}
theorem w_lterm_text (T : Txt P K mg) (n : Nat) : FnOk P w K mg base CX0 (n + 1) T.a_l_term_text T.d_l_term_text ["_law_term"] (spW K false (R1 (ttPre n) fun d => .str (mkS (txT n d)))) := by
  induction n with
  | zero => exact ⟨fun vs H Q E h => w_len 1 h fun _ _ _ ⟨_, e, _⟩ => by rw [e]; rfl, fun A outer s H args us vs Q E _ _ _ _ h => by obtain ⟨_, _, _, _, _, _, _, _, ⟨_, _, ⟨h, _⟩, _⟩, _⟩ := h; obtain ⟨_, e, _⟩ := cg_inv h; cases e⟩
  | succ n ih =>
    refine T.F_l_term_text.ok sc_l_term_text (fun vs H Q E h => w_len 1 h fun _ _ _ ⟨_, e, _⟩ => by rw [e]; rfl) (fun cdv A outer s H vs Q E hr h => ⟨_, PSs.nox (pss_cons (ps_if (pt_val (pe_callB (u_isinstance K) rfl T.n_isinstance (by decide +kernel) (pa_cons (pv 0) (pa_cons (pe_bltn (v := .ty "str") rfl T.n_str (by decide +kernel) rfl) pa_nil)))) (pss_one (ps_ret (pv 0))) pss_nil) (pss_one (ps_ret (pe_op (uAdd K) (pe_op (uAdd K) (pe_op (uAdd K) (pe_ix (uIxA K (hu64 hr)) (pv 0) pe_int (fun _ _ => rfl)) pe_str) (pe_joinT (K := K) pe_str (pe_lc (own := [("_law_part", 1)]) (g := gName 1) rfl sc_l_term_text.nd (pi_anyK (K := K) (pe_slice (uSlA K) (pv 0) (po_some pe_int) po_none)) (blkOk_by (N := ["_law_term", "_law_part"]) (sc := defScope s_l_term_text) (by decide +kernel)) (fun _ _ _ _ _ => (pg_name (i := 1) sc_l_term_text.nd rfl (Or.inl rfl))) (fun _ _ _ _ _ => pts_nil) (fun _ _ _ _ _ => (pe_call ih hr rfl T.g_l_term_text T.F_l_term_text.kp T.b_l_term_text .nil pass0 (pa_cons (pv 1) pa_nil)))))) pe_str)))), w_start h 2 rfl fun ds P xe ⟨d, e, ⟨hg, hsz⟩, p⟩ => ?_⟩)
    subst e
    refine ⟨Nat.le_of_ble_eq_true rfl, ?_⟩
    have p : P (.str (mkS (txT (n + 1) d))) := p
    obtain ⟨k, e, hh⟩ := cg_inv hg
    cases e
    have hlen := txT_len _ _ hg
    rcases hh with ⟨z, rfl, hz⟩ | ⟨z, xs, rfl, hz, hl, hx⟩
    · refine wd_seq (wd_if (eb_B (et_isStr (et_var rfl ⟨rfl, Wv.bt rfl (wd_ret (et_var rfl ?_))⟩))))
      have e : mkS (txT (n + 1) (.str z)) = z := mkS_tl z
      rw [e] at p
      exact p
    · refine wd_seq (wd_if (eb_B (et_isStr (et_var rfl ⟨rfl, Wv.bf rfl (wd_next ?_)⟩))))
      have h8 := (word_ok hz).2.1
      have et : txT (n + 1) (.tup (.str z :: xs)) = tl z ++ 40 :: (joinL [44] (xs.map (txT n)) ++ [41]) := rfl
      rw [et] at p hlen
      rw [List.length_append, List.length_cons, List.length_append] at hlen
      simp only [List.length_cons, List.length_nil] at hlen
      have hzl := len_tl z
      have e40 : (Str.ofString "(").length = 1 := by decide +kernel
      have e41 : (Str.ofString ")").length = 1 := by decide +kernel
      refine wd_ret (et_op rop_add (et_op rop_add (et_op rop_add (et_op rop_ix (et_var rfl (et_int (fx0 rfl (et_str ⟨by rw [e40]; simp only [Zz]; omega, ?_⟩))))))))
      have ej : tl (Txt.join (Str.ofString ",") (xs.map fun d => mkS (txT n d))) = joinL [44] (xs.map (txT n)) := by
        rw [join_tl, sgC, List.map_map]
        rfl
      have ejl : (Txt.join (Str.ofString ",") (xs.map fun d => mkS (txT n d))).length = (joinL [44] (xs.map (txT n))).length := by rw [len_tl, ej]
      refine et_join (et_str ⟨_, rfl, Ef.et (ef_mapY (fun d => .str (mkS (txT n d))) (ei_seq (et_sl (et_var rfl (eo_some (et_int ⟨1, rfl, eo_none ?_⟩))))))⟩)
      rw [itL_sl (d := .tup (.str z :: xs)) rfl]
      refine ⟨nown_of rfl (by intro d z; cases z), fun x hx1 => et_call0 nolk (ea_cons (et_var rfl (ea_nil ⟨x, rfl, ⟨hx x hx1, ?_⟩, rfl, rfl⟩))), xs.map fun d => mkS (txT n d), .inl (by rw [List.map_map]; rfl), ?_, ?_, ?_, et_str ⟨?_, ?_⟩⟩
      · have := szB_mem (xs := xs) hx1
        have e1 : szB (.tup (.str z :: xs)) = 1 + (1 + szBs xs) := by
          rw [szB, szBs, show szB (.str z) = 1 by unfold szB; rfl]
        omega
      · have h1 : ∀ ys : List Dt, (∀ y ∈ ys, cg n y = true) → (((ys.map fun d => mkS (txT n d)).map (·.length)).sum) ≤ 12 * szBs ys := fun ys => by
          induction ys with
          | nil => intro _; exact Nat.zero_le _
          | cons y ys ih2 =>
            intro hy
            have h1 := txT_len n y (hy y (List.mem_cons_self ..))
            have h2 := ih2 fun x hx => hy x (List.mem_cons_of_mem _ hx)
            rw [szBs]
            show (mkS (txT n y)).length + ((ys.map fun d => mkS (txT n d)).map (·.length)).sum ≤ _
            rw [len_mkS]
            omega
        have := h1 xs hx
        have e1 : szB (.tup (.str z :: xs)) = 1 + (1 + szBs xs) := by
          rw [szB, szBs, show szB (.str z) = 1 by unfold szB; rfl]
        rw [List.length_map, show (Str.ofString ",").length = 1 by decide +kernel]
        omega
      · rw [ejl]; simp only [Zz]; omega
      · show (z ++ Str.ofString "(").length + _ ≤ Zz
        rw [ejl, len_tl, tl_append, List.length_append, sgL]; simp only [Zz, List.length_cons, List.length_nil]; omega
      · rw [e41, len_tl, tl_append, tl_append, List.length_append, List.length_append, ej, sgL]; simp only [Zz, List.length_cons, List.length_nil]; omega
      · have e : z ++ Str.ofString "(" ++ Txt.join (Str.ofString ",") (xs.map fun d => mkS (txT n d)) ++ Str.ofString ")" = mkS (tl z ++ 40 :: (joinL [44] (xs.map (txT n)) ++ [41])) := ext_tl (by
          rw [tl_append, tl_append, tl_append, ej, sgL, sgR, tl_mkS, List.append_assoc, List.append_assoc]
          rfl)
        rw [e]
        exact p
theorem joinL_ne {s : Nat} {t : Dt} {ts : List Dt} (ht : ttPre 7 t) : joinL [s] ((t :: ts).map (txT 7)) ≠ [] := by
  have := txT_ne ht.1
  cases ts with
  | nil => exact this
  | cons u us =>
    show txT 7 t ++ ([s] ++ joinL [s] ((u :: us).map (txT 7))) ≠ []
    intro e
    exact this (List.append_eq_nil_iff.mp e).1
theorem w_lwire_text (T : Txt P K mg) : FnOk P w K mg base CX0 9 T.a_l_wire_text T.d_l_wire_text ["_law_wire"] (spW K false RWt) := by
  refine T.F_l_wire_text.ok sc_l_wire_text (fun vs H Q E h => w_len 1 h fun _ _ _ ⟨_, e, _⟩ => by rw [e]; rfl) (fun cdv A outer s H vs Q E hr h => ⟨_, PSs.nox (pss_cons (ps_set (i := 1) sc_l_wire_text.nd rfl (Or.inl rfl) (pe_joinT (K := K) pe_str (pe_lc (own := [("_law_term", 2)]) (g := gName 2) rfl sc_l_wire_text.nd (pi_anyK (K := K) (pe_ix (uIxA K (hu64 hr)) (pv 0) pe_int (fun _ _ => rfl))) (blkOk_by (N := ["_law_wire", "_law_starts_here", "_law_term"]) (sc := defScope s_l_wire_text) (by decide +kernel)) (fun _ _ _ _ _ => (pg_name (i := 2) sc_l_wire_text.nd rfl (Or.inl rfl))) (fun _ _ _ _ _ => pts_nil) (fun _ _ _ _ _ => (pe_call (w_lterm_text T 7) (hr.mono (by omega)) rfl T.g_l_term_text T.F_l_term_text.kp T.b_l_term_text .nil pass0 (pa_cons (pv 2) pa_nil)))))) (pss_one (ps_ret (pe_op (uAdd K) (pe_ix (uIxA K (hu64 hr)) (pv 0) pe_int (fun _ _ => rfl)) (pe_ifExp (pt_cmpR (uNe K (hu64 hr)) (pv 1) pe_str (nomark _)) (pe_op (uAdd K) pe_str (pv 1)) pe_str))))), w_start h 3 rfl fun ds P xe ⟨x, e, hw, ht, hl, p⟩ => ?_⟩)
  subst e
  refine ⟨Nat.le_of_ble_eq_true rfl, ?_⟩
  obtain ⟨b, ts⟩ := x
  have h8 := (word_ok hw).2.1
  have hbl := len_tl b
  have htl := wtx_len hw ht hl
  have ej : tl (Txt.join (Str.ofString ";") (ts.map fun d => mkS (txT 7 d))) = joinL [59] (ts.map (txT 7)) := by
    rw [join_tl, sgS, List.map_map]
    rfl
  have ejl : (Txt.join (Str.ofString ";") (ts.map fun d => mkS (txT 7 d))).length = (joinL [59] (ts.map (txT 7))).length := by rw [len_tl, ej]
  have hjl : (joinL [59] (ts.map (txT 7))).length ≤ 1600 := by
    have := joinL_len 59 (ts.map (txT 7))
    have h2 := txs_len ts ht
    have hl : ts.length ≤ 8 := hl
    omega
  refine wd_seq (wd_asg (et_join (et_str ⟨_, rfl, Ef.et (ef_mapY (fun d => .str (mkS (txT 7 d))) (ei_seq (et_op rop_ix (et_var rfl (et_int (fx1 rfl (itsL ?_)))))))⟩)))
  refine ⟨nown_of rfl (by intro d z; cases z), fun x hx1 => et_call0 nolk (ea_cons (et_var rfl (ea_nil ⟨x, rfl, ht x hx1, rfl, rfl⟩))), ts.map fun d => mkS (txT 7 d), .inl (by rw [List.map_map]; rfl), ?_, by rw [ejl]; simp only [Zz]; omega, ?_⟩
  · have h1 : ∀ ys : List Dt, (∀ y ∈ ys, ttPre 7 y) → (((ys.map fun d => mkS (txT 7 d)).map (·.length)).sum) ≤ 192 * ys.length := fun ys => by
      induction ys with
      | nil => intro _; exact Nat.zero_le _
      | cons y ys ih2 =>
        intro hy
        have h1 := txT_len 7 y (hy y (List.mem_cons_self ..)).1
        have h3 := (hy y (List.mem_cons_self ..)).2
        have h2 := ih2 fun x hx => hy x (List.mem_cons_of_mem _ hx)
        show (mkS (txT 7 y)).length + ((ys.map fun d => mkS (txT 7 d)).map (·.length)).sum ≤ 192 * (ys.length + 1)
        rw [len_mkS]
        omega
    refine Nat.le_trans (Nat.add_le_add (h1 ts ht) (Nat.le_refl _)) ?_
    have hl : ts.length ≤ 8 := hl
    rw [List.length_map, show (Str.ofString ";").length = 1 by decide +kernel]
    omega
  refine wd_ret (et_op rop_add (et_op rop_ix (et_var rfl (et_int (fx0 rfl (et_if (eb_test (et_op rop_ne (et_var rfl (et_str (fne_s ?_)))))))))))
  cases ts with
  | nil =>
    refine Wv.bf (by decide +kernel) (et_str ⟨?_, ?_⟩)
    · rw [show (Str.ofString "").length = 0 by decide +kernel]
      have h8 : b.length < 9 := h8
      simp only [Zz]
      omega
    · have e : b ++ Str.ofString "" = mkS (wtx (b, [])) := ext_tl (by
        rw [tl_append, show tl (Str.ofString "") = [] by decide +kernel]
        rfl)
      rw [e]
      exact p
  | cons t ts =>
    have hne : Txt.join (Str.ofString ";") ((t :: ts).map fun d => mkS (txT 7 d)) ≠ Str.ofString "" := fun z => by
      have := congrArg tl z
      rw [ej, show tl (Str.ofString "") = [] by decide +kernel] at this
      exact joinL_ne (ht t (List.mem_cons_self ..)) this
    refine Wv.bt (by rw [decide_eq_false hne]; rfl) (et_op rop_add (et_str (et_var rfl ⟨?_, ?_, ?_⟩)))
    · rw [ejl, show (Str.ofString "@").length = 1 by decide +kernel]; simp only [Zz]; omega
    · rw [len_tl (Str.ofString "@" ++ _), tl_append, List.length_append, ej, sgA]; simp only [Zz, List.length_cons, List.length_nil]
      have h8 : b.length < 9 := h8
      omega
    · have e : b ++ (Str.ofString "@" ++ Txt.join (Str.ofString ";") ((t :: ts).map fun d => mkS (txT 7 d))) = mkS (wtx (b, t :: ts)) := ext_tl (by
        rw [tl_append, tl_append, ej, sgA]
        rfl)
      rw [e]
      exact p
def RLwT : Rd3 := fun ds Pd _ => ∃ b ws, ds = [b] ∧ KB b ws ∧ Pd (.lst (ws.map wD))
theorem w_lwiresT (T : Txt P K mg) : FnOk P w K mg base CX0 1 T.a_wires T.d_wires ["_law_box"] (spW K false RLwT) := by
  refine T.F_wires.ok sc_wires (fun vs H Q E h => w_len 1 h fun _ _ _ ⟨_, _, e, _⟩ => by rw [e]; rfl) (fun cdv A outer s H vs Q E hr h => ⟨_, PSs.nox (pss_one (ps_ret (pe_ifExp (pt_cmpR (uEq K (hu64 hr)) (pe_ix (uIxA K (hu64 hr)) (pv 0) pe_int (fun _ _ => rfl)) pe_str (nomark _)) (pe_ix (uIxA K (hu64 hr)) (pv 0) pe_int (fun _ _ => rfl)) (pe_lst pa_nil)))), w_start h 1 rfl fun ds Pd xe ⟨b, ws, e, hb, p⟩ => ?_⟩)
  subst e
  refine ⟨Nat.le_of_ble_eq_true rfl, ?_⟩
  cases hb with
  | inp z =>
    ac_rfl
    exact Ef.et (ef_lst (ea_nil ⟨Nat.zero_le _, p⟩))
  | op z ws h =>
    ac_rfl
    exact p
def RLl : Rd3 := fun ds Pd _ => ∃ bt ot ns ons, ds = [.tup [.dct bt, .dct ot]] ∧ TxT bt ot ns ons ∧ ∀ ys zs, ys.Perm ns → sortedS ys = true → zs.Perm ons → sortedS zs = true → Pd (.lst ((txL bt ot ys zs).map .str))
theorem w_llines (T : Txt P K mg) : FnOk P w K mg base CX0 11 T.a_lines T.d_lines ["_law_net_here"] (spW K true RLl) := by
  refine T.F_lines.ok sc_lines (fun vs H Q E h => w_len 1 h fun _ _ _ ⟨_, _, _, _, e, _⟩ => by rw [e]; rfl) (fun cdv A outer s H vs Q E hr h => ⟨_, PSs.nox (pss_cons (ps_set (i := 1) sc_lines.nd rfl (Or.inl rfl) (pe_lst pa_nil)) (pss_cons (ps_for PassesOwn.never rfl (pi_anyK (K := K) (pe_callB (u_sortA K rfl) rfl T.n_sorted (by decide +kernel) (pa_cons (pe_ix (uIxA K (hu64 hr)) (pv 0) pe_int (fun _ _ => rfl)) pa_nil))) (pg_name (i := 2) sc_lines.nd rfl (Or.inl rfl)) (pss_cons (ps_set (i := 3) sc_lines.nd rfl (Or.inl rfl) (pe_ix (uIxA K (hu64 hr)) (pe_ix (uIxA K (hu64 hr)) (pv 0) pe_int (fun _ _ => rfl)) (pv 2) (fun _ _ => rfl))) (pss_cons (ps_set (i := 4) sc_lines.nd rfl (Or.inl rfl) (pe_op (uAdd K) (pe_lst (pa_cons (pe_ix (uIxA K (hu64 hr)) (pv 3) pe_int (fun _ _ => rfl)) (pa_cons (pv 2) (pa_cons (pe_ix (uIxA K (hu64 hr)) (pv 3) pe_int (fun _ _ => rfl)) pa_nil)))) (pe_lc (own := [("_law_wire", 6)]) (g := gName 6) rfl sc_lines.nd (pi_anyK (K := K) (pe_call (w_lwiresT T) (hr.mono (by omega)) rfl T.g_wires T.F_wires.kp T.b_wires .nil pass0 (pa_cons (pv 3) pa_nil))) (blkOk_by (N := ["_law_net_here", "_law_found", "_law_name", "_law_box", "_law_words", "_law_out", "_law_wire"]) (sc := defScope s_lines) (by decide +kernel)) (fun _ _ _ _ _ => (pg_name (i := 6) sc_lines.nd rfl (Or.inl rfl))) (fun _ _ _ _ _ => pts_nil) (fun _ _ _ _ _ => (pe_call (w_lwire_text T) (hr.mono (by omega)) rfl T.g_l_wire_text T.F_l_wire_text.kp T.b_l_wire_text .nil pass0 (pa_cons (pv 6) pa_nil)))))) (pss_one (ps_expr (pe_bm PySem.F.plainAttrs_list PySem.F.slot_list_append PySem.F.type_list_append mt_append (pv 1) (pa_cons (pe_joinT (K := K) pe_str (pv 4)) pa_nil))))))) (pss_cons (ps_for PassesOwn.never rfl (pi_anyK (K := K) (pe_callB (u_sortA K rfl) rfl T.n_sorted (by decide +kernel) (pa_cons (pe_ix (uIxA K (hu64 hr)) (pv 0) pe_int (fun _ _ => rfl)) pa_nil))) (pg_name (i := 5) sc_lines.nd rfl (Or.inl rfl)) (pss_one (ps_expr (pe_bm PySem.F.plainAttrs_list PySem.F.slot_list_append PySem.F.type_list_append mt_append (pv 1) (pa_cons (pe_op (uAdd K) (pe_op (uAdd K) (pe_op (uAdd K) pe_str (pv 5)) pe_str) (pe_call (w_lwire_text T) (hr.mono (by omega)) rfl T.g_l_wire_text T.F_l_wire_text.kp T.b_l_wire_text .nil pass0 (pa_cons (pe_ix (uIxA K (hu64 hr)) (pe_ix (uIxA K (hu64 hr)) (pv 0) pe_int (fun _ _ => rfl)) (pv 5) (fun _ _ => rfl)) pa_nil))) pa_nil))))) (pss_one (ps_ret (pv 1)))))), w_start h 7 rfl fun ds Pd xe ⟨bt, ot, ns, ons, e, hT, p⟩ => ?_⟩)
  subst e
  refine ⟨Nat.le_of_ble_eq_true rfl, ?_⟩
  refine wd_seq (wd_asgO (ef_lst (ea_nil ⟨Nat.zero_le _, ?_⟩)))
  have zn : ∀ z ∈ ns, z.length ≤ Zz := fun z hz => by have := (word_ok (hT.hb z hz).1).2.1; simp only [Zz]; omega
  have zo : ∀ z ∈ ons, z.length ≤ Zz := fun z hz => by have := (word_ok (hT.ho z hz).1).2.1; simp only [Zz]; omega
  have hln := hT.ln
  have hln : ns.length + ons.length ≤ 8 := by omega
  refine wd_seq (wd_for (ei_seq (Ef.et (ef_cb rcf_sort (et_op rop_ix (et_var rfl (et_int (fx0 rfl ⟨ns, hT.kb, zn, by omega, fun ys hy hs => itsL ?_⟩))))))))
  refine ⟨fun i e => ∃ s2 s3 s4, e = [.v (.tup [.dct bt, .dct ot]), .own (.lst (((ys.take i).map (bxLn bt)).map .str)), s2, s3, s4, .no, .no] ∧ (∀ d, s4 ≠ Sl.own d), ⟨_, _, _, rfl, fun d z => by cases z⟩, ?_, ?_⟩
  · rintro i d e hi ⟨s2, s3, s4, rfl, n4⟩
    obtain ⟨n, hn, rfl⟩ := strAtX hi
    have et : ys.take (i + 1) = ys.take i ++ [n] := by rw [List.take_add_one, hn]; rfl
    have hin : i < ys.length := (List.getElem?_eq_some_iff.mp hn).1
    have hyl := hy.length_eq
    obtain ⟨hw, b, ws, h1, h2⟩ := hT.hb n (hy.mem_iff.mp (List.mem_of_getElem? hn))
    have hBl := hT.bl (hy.mem_iff.mp (List.mem_of_getElem? hn))
    have eB : bxLn bt n = lnJ (bxL n b) := by unfold bxLn; rw [h1]; rfl
    obtain ⟨q1, q2⟩ := bxL_ok hw h2
    refine tg_name (wd_seq (wd_asg (et_op rop_ix (et_op rop_ix (et_var rfl (et_int (fx0 rfl (et_var rfl ⟨b, h1, ?_⟩))))))))
    show Wd _ [.v (.tup [.dct bt, .dct ot]), .own (.lst (((ys.take i).map (bxLn bt)).map .str)), .v (.str n), .v b, s4, .no, .no] _ _
    obtain ⟨a, c, r, ei, eL⟩ := h2.sh n
    have hs3 : (((bxL n b).map (·.length)).sum) ≤ 1600 * (bxL n b).length := sum_le (k := 1600) q1
    have hs4 : 1600 * (bxL n b).length ≤ 1600 * 7 := Nat.mul_le_mul_left _ q2
    have hjl := ln_len q1 q2
    refine wd_seq (wd_asg (et_op rop_add (Ef.et (ef_lst (ea_cons (et_op rop_ix (et_var rfl (et_int (fxN (i := 0) ei rfl (ea_cons (et_var rfl (ea_cons (et_op rop_ix (et_var rfl (et_int (fxN (i := 1) ei rfl (ea_nil ⟨Nat.le_of_ble_eq_true rfl, Ef.et (ef_mapY (fun d => .str (wtD d)) (ei_seq (et_call0 nolk (ea_cons (et_var rfl (ea_nil ⟨b, ws, rfl, h2.kb, itsL ⟨nown_no rfl, fun d hd => ?_, ?_⟩⟩))))))⟩)))))))))))))))))
    · obtain ⟨x, hx, rfl⟩ := List.mem_map.mp hd
      have hxx := h2.wx x hx
      exact et_call0 nolk (ea_cons (et_var rfl (ea_nil ⟨x, rfl, hxx.w, hxx.t, hxx.l, rfl, rfl⟩)))
    · have e3 : [Dt.str a, Dt.str n, Dt.str c] ++ (ws.map wD).map (fun d => .str (wtD d)) = (bxL n b).map .str := by
        rw [eL, List.map_append, List.map_map, List.map_map]
        rfl
      refine ⟨?_, ?_⟩
      · have := congrArg List.length eL
        rw [List.length_append, List.length_map] at this
        rw [List.length_map, List.length_map]
        simp only [List.length_cons, List.length_nil, Zz] at this ⊢
        omega
      rw [e3]
      show Wd _ [.v (.tup [.dct bt, .dct ot]), .own (.lst (((ys.take i).map (bxLn bt)).map .str)), .v (.str n), .v b, .v (.lst ((bxL n b).map .str)), .no, .no] _ _
      refine wd_app rfl (et_join (et_str ⟨_, rfl, et_var rfl ⟨bxL n b, .inl rfl, by rw [spS]; omega, Nat.le_trans hjl (by decide), _, rfl, ?_, ?_⟩⟩))
      · rw [List.length_map, List.length_map, List.length_take]
        simp only [Zz]
        omega
      · refine ⟨.v (.str n), .v b, .v (.lst ((bxL n b).map .str)), ?_, fun d z => by cases z⟩
        rw [et, List.map_append, List.map_append]
        show _ = [_, Sl.own (.lst (_ ++ [Dt.str (bxLn bt n)])), _, _, _, _, _]
        rw [eB]
        rfl
  rintro e ⟨s2, s3, s4, rfl, n4⟩
  rw [List.length_map, List.take_length]
  refine wd_seq (wd_for (ei_seq (Ef.et (ef_cb rcf_sort (et_op rop_ix (et_var rfl (et_int (fx1 rfl ⟨ons, hT.ko, zo, by omega, fun zs hz hs2 => itsL ?_⟩))))))))
  have hzl := hz.length_eq
  have hyl := hy.length_eq
  refine ⟨fun i e => ∃ s5, e = [.v (.tup [.dct bt, .dct ot]), .own (.lst ((ys.map (bxLn bt) ++ (zs.take i).map (otLn ot)).map .str)), s2, s3, s4, s5, .no], ⟨_, by rw [List.take_zero, List.map_nil, List.append_nil]⟩, ?_, ?_⟩
  · rintro i d e hi ⟨s5, rfl⟩
    obtain ⟨n, hn, rfl⟩ := strAtX hi
    have et : zs.take (i + 1) = zs.take i ++ [n] := by rw [List.take_add_one, hn]; rfl
    have hin : i < zs.length := (List.getElem?_eq_some_iff.mp hn).1
    obtain ⟨hw, x, h1, h2⟩ := hT.ho n (hz.mem_iff.mp (List.mem_of_getElem? hn))
    have h8 := (word_ok hw).2.1
    have hwl := h2.len
    have eB : otLn ot n = Str.ofString "out " ++ n ++ Str.ofString " " ++ mkS (wtx x) := by
      unfold otLn
      rw [h1]
      refine ext_tl ?_
      show tl (Txt.join (Str.ofString " ") [outS, n, mkS (wtx x)]) = _
      rw [join_tl, tl_append, tl_append, tl_append]
      have e1 : tl (Str.ofString "out ") = tl outS ++ tl (Str.ofString " ") := by decide +kernel
      rw [e1]
      show tl outS ++ (tl (Str.ofString " ") ++ (tl n ++ (tl (Str.ofString " ") ++ tl (mkS (wtx x))))) = _
      simp only [List.append_assoc]
    have o4 : (Str.ofString "out ").length = 4 := by decide +kernel
    have l1 : (Str.ofString "out " ++ n).length = 4 + n.length := by rw [len_tl, tl_append, List.length_append, ← len_tl, ← len_tl, o4]
    have l2 : (Str.ofString "out " ++ n ++ Str.ofString " ").length = 4 + n.length + 1 := by rw [len_tl, tl_append, List.length_append, ← len_tl, ← len_tl, l1, spS]
    refine tg_name (wd_app rfl (et_op rop_add (et_op rop_add (et_op rop_add (et_str (et_var rfl ⟨by rw [o4]; simp only [Zz]; omega, et_str ⟨by rw [l1, spS]; simp only [Zz]; omega, ?_⟩⟩))))))
    refine et_call0 nolk (ea_cons (et_op rop_ix (et_op rop_ix (et_var rfl (et_int (fx1 rfl (et_var rfl ⟨wD x, h1, ea_nil ⟨x, rfl, h2.w, h2.t, h2.l, ?_⟩⟩)))))))
    refine ⟨by rw [l2]; simp only [Zz]; omega, _, rfl, ?_, ?_⟩
    · rw [List.length_map, List.length_append, List.length_map, List.length_map, List.length_take]
      simp only [Zz]
      omega
    · refine ⟨.v (.str n), ?_⟩
      rw [et, List.map_append (l₁ := zs.take i), ← List.append_assoc, List.map_append (l₂ := [n].map (otLn ot))]
      show _ = [_, Sl.own (.lst (_ ++ [Dt.str (otLn ot n)])), _, _, _, _, _]
      rw [eB]
      rfl
  rintro e ⟨s5, rfl⟩
  rw [List.length_map, List.take_length]
  exact wd_ret (et_own rfl (p ys zs hy hs hz hs2))
end
end Lw
namespace Lw
open PySem PySem.Spec PyProof.Rows L2 Evl Wv TL
section
variable {P : Program} {w : World} {K : PySem.W.Frag} {mg : Str → Option Value} {base : Heap}
theorem w_term_text (T : Txt P K mg) (n : Nat) : FnOk P w K mg base CX0 (n + 1) T.a_term_text T.d_term_text ["term"] (spW K false (R1 (ttPre n) fun d => .str (mkS (txT n d)))) := by
  induction n with
  | zero => exact ⟨fun vs H Q E h => w_len 1 h fun _ _ _ ⟨_, e, _⟩ => by rw [e]; rfl, fun A outer s H args us vs Q E _ _ _ _ h => by obtain ⟨_, _, _, _, _, _, _, _, ⟨_, _, ⟨h, _⟩, _⟩, _⟩ := h; obtain ⟨_, e, _⟩ := cg_inv h; cases e⟩
  | succ n ih =>
    refine T.F_term_text.ok sc_term_text (fun vs H Q E h => w_len 1 h fun _ _ _ ⟨_, e, _⟩ => by rw [e]; rfl) (fun cdv A outer s H vs Q E hr h => ⟨_, PSs.nox (pss_cons (ps_if (pt_val (pe_callB (u_isinstance K) rfl T.n_isinstance (by decide +kernel) (pa_cons (pv 0) (pa_cons (pe_bltn (v := .ty "str") rfl T.n_str (by decide +kernel) rfl) pa_nil)))) (pss_one (ps_ret (pv 0))) pss_nil) (pss_one (ps_ret (pe_op (uAdd K) (pe_op (uAdd K) (pe_op (uAdd K) (pe_ix (uIxA K (hu64 hr)) (pv 0) pe_int (fun _ _ => rfl)) pe_str) (pe_joinT (K := K) pe_str (pe_lc (own := [("part", 1)]) (g := gName 1) rfl sc_term_text.nd (pi_anyK (K := K) (pe_slice (uSlA K) (pv 0) (po_some pe_int) po_none)) (blkOk_by (N := ["term", "part"]) (sc := defScope s_term_text) (by decide +kernel)) (fun _ _ _ _ _ => (pg_name (i := 1) sc_term_text.nd rfl (Or.inl rfl))) (fun _ _ _ _ _ => pts_nil) (fun _ _ _ _ _ => (pe_call ih hr rfl T.g_term_text T.F_term_text.kp T.b_term_text .nil pass0 (pa_cons (pv 1) pa_nil)))))) pe_str)))), w_start h 2 rfl fun ds P xe ⟨d, e, ⟨hg, hsz⟩, p⟩ => ?_⟩)
    subst e
    refine ⟨Nat.le_of_ble_eq_true rfl, ?_⟩
    have p : P (.str (mkS (txT (n + 1) d))) := p
    obtain ⟨k, e, hh⟩ := cg_inv hg
    cases e
    have hlen := txT_len _ _ hg
    rcases hh with ⟨z, rfl, hz⟩ | ⟨z, xs, rfl, hz, hl, hx⟩
    · refine wd_seq (wd_if (eb_B (et_isStr (et_var rfl ⟨rfl, Wv.bt rfl (wd_ret (et_var rfl ?_))⟩))))
      have e : mkS (txT (n + 1) (.str z)) = z := mkS_tl z
      rw [e] at p
      exact p
    · refine wd_seq (wd_if (eb_B (et_isStr (et_var rfl ⟨rfl, Wv.bf rfl (wd_next ?_)⟩))))
      have h8 := (word_ok hz).2.1
      have et : txT (n + 1) (.tup (.str z :: xs)) = tl z ++ 40 :: (joinL [44] (xs.map (txT n)) ++ [41]) := rfl
      rw [et] at p hlen
      rw [List.length_append, List.length_cons, List.length_append] at hlen
      simp only [List.length_cons, List.length_nil] at hlen
      have hzl := len_tl z
      have e40 : (Str.ofString "(").length = 1 := by decide +kernel
      have e41 : (Str.ofString ")").length = 1 := by decide +kernel
      refine wd_ret (et_op rop_add (et_op rop_add (et_op rop_add (et_op rop_ix (et_var rfl (et_int (fx0 rfl (et_str ⟨by rw [e40]; simp only [Zz]; omega, ?_⟩))))))))
      have ej : tl (Txt.join (Str.ofString ",") (xs.map fun d => mkS (txT n d))) = joinL [44] (xs.map (txT n)) := by
        rw [join_tl, sgC, List.map_map]
        rfl
      have ejl : (Txt.join (Str.ofString ",") (xs.map fun d => mkS (txT n d))).length = (joinL [44] (xs.map (txT n))).length := by rw [len_tl, ej]
      refine et_join (et_str ⟨_, rfl, Ef.et (ef_mapY (fun d => .str (mkS (txT n d))) (ei_seq (et_sl (et_var rfl (eo_some (et_int ⟨1, rfl, eo_none ?_⟩))))))⟩)
      rw [itL_sl (d := .tup (.str z :: xs)) rfl]
      refine ⟨nown_of rfl (by intro d z; cases z), fun x hx1 => et_call0 nolk (ea_cons (et_var rfl (ea_nil ⟨x, rfl, ⟨hx x hx1, ?_⟩, rfl, rfl⟩))), xs.map fun d => mkS (txT n d), .inl (by rw [List.map_map]; rfl), ?_, ?_, ?_, et_str ⟨?_, ?_⟩⟩
      · have := szB_mem (xs := xs) hx1
        have e1 : szB (.tup (.str z :: xs)) = 1 + (1 + szBs xs) := by
          rw [szB, szBs, show szB (.str z) = 1 by unfold szB; rfl]
        omega
      · have h1 : ∀ ys : List Dt, (∀ y ∈ ys, cg n y = true) → (((ys.map fun d => mkS (txT n d)).map (·.length)).sum) ≤ 12 * szBs ys := fun ys => by
          induction ys with
          | nil => intro _; exact Nat.zero_le _
          | cons y ys ih2 =>
            intro hy
            have h1 := txT_len n y (hy y (List.mem_cons_self ..))
            have h2 := ih2 fun x hx => hy x (List.mem_cons_of_mem _ hx)
            rw [szBs]
            show (mkS (txT n y)).length + ((ys.map fun d => mkS (txT n d)).map (·.length)).sum ≤ _
            rw [len_mkS]
            omega
        have := h1 xs hx
        have e1 : szB (.tup (.str z :: xs)) = 1 + (1 + szBs xs) := by
          rw [szB, szBs, show szB (.str z) = 1 by unfold szB; rfl]
        rw [List.length_map, show (Str.ofString ",").length = 1 by decide +kernel]
        omega
      · rw [ejl]; simp only [Zz]; omega
      · show (z ++ Str.ofString "(").length + _ ≤ Zz
        rw [ejl, len_tl, tl_append, List.length_append, sgL]; simp only [Zz, List.length_cons, List.length_nil]; omega
      · rw [e41, len_tl, tl_append, tl_append, List.length_append, List.length_append, ej, sgL]; simp only [Zz, List.length_cons, List.length_nil]; omega
      · have e : z ++ Str.ofString "(" ++ Txt.join (Str.ofString ",") (xs.map fun d => mkS (txT n d)) ++ Str.ofString ")" = mkS (tl z ++ 40 :: (joinL [44] (xs.map (txT n)) ++ [41])) := ext_tl (by
          rw [tl_append, tl_append, tl_append, ej, sgL, sgR, tl_mkS, List.append_assoc, List.append_assoc]
          rfl)
        rw [e]
        exact p
end
end Lw
namespace Lw
open PySem PySem.Spec PyProof.Rows L2 Evl Wv TL
section
variable {P : Program} {w : World} {K : PySem.W.Frag} {mg : Str → Option Value} {base : Heap}
theorem w_wire_text (T : Txt P K mg) : FnOk P w K mg base CX0 9 T.a_wire_text T.d_wire_text ["wire"] (spW K false RWt) := by
  refine T.F_wire_text.ok sc_wire_text (fun vs H Q E h => w_len 1 h fun _ _ _ ⟨_, e, _⟩ => by rw [e]; rfl) (fun cdv A outer s H vs Q E hr h => ⟨_, PSs.nox (pss_one (ps_ret (pe_op (uAdd K) (pe_ix (uIxA K (hu64 hr)) (pv 0) pe_int (fun _ _ => rfl)) (pe_ifExp (pt_cmpR (uNe K (hu64 hr)) (pe_ix (uIxA K (hu64 hr)) (pv 0) pe_int (fun _ _ => rfl)) (pe_lst pa_nil) (nomark _)) (pe_op (uAdd K) pe_str (pe_joinT (K := K) pe_str (pe_lc (own := [("term", 1)]) (g := gName 1) rfl sc_wire_text.nd (pi_anyK (K := K) (pe_ix (uIxA K (hu64 hr)) (pv 0) pe_int (fun _ _ => rfl))) (blkOk_by (N := ["wire", "term"]) (sc := defScope s_wire_text) (by decide +kernel)) (fun _ _ _ _ _ => (pg_name (i := 1) sc_wire_text.nd rfl (Or.inl rfl))) (fun _ _ _ _ _ => pts_nil) (fun _ _ _ _ _ => (pe_call (w_term_text T 7) (hr.mono (by omega)) rfl T.g_term_text T.F_term_text.kp T.b_term_text .nil pass0 (pa_cons (pv 1) pa_nil)))))) pe_str)))), w_start h 2 rfl fun ds P xe ⟨x, e, hw, ht, hl, p⟩ => ?_⟩)
  subst e
  refine ⟨Nat.le_of_ble_eq_true rfl, ?_⟩
  obtain ⟨b, ts⟩ := x
  have h8 := (word_ok hw).2.1
  have hbl := len_tl b
  have htl := wtx_len hw ht hl
  have hd : dats ts = true := dats_cg (n := 7) fun x hx => (ht x hx).1
  have hdp : deps ts < 50 := by
    have := deps_le (n := 7) (xs := ts) fun x hx => by have := cg_dep (ht x hx).1; omega
    omega
  refine wd_ret (et_op rop_add (et_op rop_ix (et_var rfl (et_int (fx0 rfl (et_if (eb_test (et_op rop_ne (et_op rop_ix (et_var rfl (et_int (fx1 rfl (Ef.et (ef_lst (ea_nil ⟨Nat.zero_le _, fne_nil hd hdp ?_⟩)))))))))))))))
  cases ts with
  | nil =>
    refine Wv.bf rfl (et_str ⟨?_, ?_⟩)
    · rw [show (Str.ofString "").length = 0 by decide +kernel]
      have h8 : b.length < 9 := h8
      simp only [Zz]
      omega
    · have e : b ++ Str.ofString "" = mkS (wtx (b, [])) := ext_tl (by
        rw [tl_append, show tl (Str.ofString "") = [] by decide +kernel]
        rfl)
      rw [e]
      exact p
  | cons t ts =>
    have ej : tl (Txt.join (Str.ofString ";") ((t :: ts).map fun d => mkS (txT 7 d))) = joinL [59] ((t :: ts).map (txT 7)) := by
      rw [join_tl, sgS, List.map_map]
      rfl
    have ejl : (Txt.join (Str.ofString ";") ((t :: ts).map fun d => mkS (txT 7 d))).length = (joinL [59] ((t :: ts).map (txT 7))).length := by rw [len_tl, ej]
    have htl : (tl b ++ 64 :: joinL [59] ((t :: ts).map (txT 7))).length ≤ 1600 := htl
    rw [List.length_append, List.length_cons] at htl
    refine Wv.bt rfl (et_op rop_add (et_str (et_join (et_str ⟨_, rfl, Ef.et (ef_mapY (fun d => .str (mkS (txT 7 d))) (ei_seq (et_op rop_ix (et_var rfl (et_int (fx1 rfl (itsL ?_)))))))⟩))))
    refine ⟨nown_of rfl (by intro d z; cases z), fun x hx1 => et_call0 nolk (ea_cons (et_var rfl (ea_nil ⟨x, rfl, ht x hx1, rfl, rfl⟩))), (t :: ts).map fun d => mkS (txT 7 d), .inl (by rw [List.map_map]; rfl), ?_, ?_, ?_, ?_, ?_⟩
    · have h1 : ∀ ys : List Dt, (∀ y ∈ ys, ttPre 7 y) → (((ys.map fun d => mkS (txT 7 d)).map (·.length)).sum) ≤ 192 * ys.length := fun ys => by
        induction ys with
        | nil => intro _; exact Nat.zero_le _
        | cons y ys ih2 =>
          intro hy
          have h1 := txT_len 7 y (hy y (List.mem_cons_self ..)).1
          have h3 := (hy y (List.mem_cons_self ..)).2
          have h2 := ih2 fun x hx => hy x (List.mem_cons_of_mem _ hx)
          show (mkS (txT 7 y)).length + ((ys.map fun d => mkS (txT 7 d)).map (·.length)).sum ≤ 192 * (ys.length + 1)
          rw [len_mkS]
          omega
      refine Nat.le_trans (Nat.add_le_add (h1 (t :: ts) ht) (Nat.le_refl _)) ?_
      have hl : (t :: ts).length ≤ 8 := hl
      rw [List.length_map, show (Str.ofString ";").length = 1 by decide +kernel]
      omega
    · rw [ejl]; simp only [Zz]; omega
    · rw [ejl, show (Str.ofString "@").length = 1 by decide +kernel]; simp only [Zz]; omega
    · rw [len_tl (Str.ofString "@" ++ _), tl_append, List.length_append, ej, sgA, hbl]; simp only [Zz, List.length_cons, List.length_nil]; omega
    · have e : b ++ (Str.ofString "@" ++ Txt.join (Str.ofString ";") ((t :: ts).map fun d => mkS (txT 7 d))) = mkS (wtx (b, t :: ts)) := ext_tl (by
        rw [tl_append, tl_append, ej, sgA]
        rfl)
      rw [e]
      exact p
end
end Lw
namespace Lw
open PySem PySem.Spec PyProof.Rows L2 Evl Wv
section
variable {P : Program} {w : World} {K : PySem.W.Frag} {mg : Str → Option Value} {base : Heap}
/-- the program's net of some parts that are good -/
def RNet (T : Txt P K mg) : Rd3 := fun ds Pd xe => ∃ d bd od, ds = [d] ∧ itL d = some [bd, od] ∧ RN T [bd, od] Pd xe
theorem w_net (T : Txt P K mg) : FnOk P w K mg base CX0 17 T.a_net T.d_net ["_law_net_here"] (spW K true fun ds Pd _ => RNet T ds Pd fun _ _ => False) := by
  refine T.F_net.ok sc_net (fun vs H Q E h => w_len 1 h fun _ _ _ ⟨_, _, _, e, _⟩ => by rw [e]; rfl) (fun cdv A outer s H vs Q E hr h => ⟨_, PSs.nox (pss_one (ps_ret (pe_make T.k_Net (ok_Net_init T) (hr.mono (by omega)) rfl T.g_Net T.b_Net_init .nil passF (pa_cons (pe_ix (uIxA K (hu64 hr)) (pv 0) pe_int (fun _ _ => rfl)) (pa_cons (pe_ix (uIxA K (hu64 hr)) (pv 0) pe_int (fun _ _ => rfl)) pa_nil))))), w_start h 1 rfl fun ds Pd xe ⟨d, bd, od, e, hd, hR⟩ => ?_⟩)
  subst e
  refine ⟨Nat.le_of_ble_eq_true rfl, ?_⟩
  refine wd_ret (et_make0 samelk ?_)
  repeat' (first | (with_reducible show Et _ _ _ _; first | with_reducible refine et_popAt (by with_unfolding_all rfl) ?_ | with_reducible refine et_var (by with_unfolding_all rfl) ?_ | with_reducible refine et_int ?_ | with_reducible refine et_str ?_ | with_reducible refine et_bl ?_ | with_reducible refine et_non ?_ | with_reducible refine et_andV ?_ | with_reducible refine et_orV ?_ | with_reducible refine et_notV ?_ | with_reducible refine et_if ?_ | with_reducible refine et_isStr ?_ | with_reducible refine et_isInt ?_ | with_reducible refine et_isBool ?_ | with_reducible refine et_isDict ?_ | with_reducible refine et_isList ?_ | with_reducible refine et_isTuple ?_ | with_reducible refine et_isLT ?_ | with_reducible refine et_tup ?_ | with_reducible refine et_neg ?_ | with_reducible refine et_ixO (by with_unfolding_all rfl) ?_ | with_reducible refine et_opL (by first | exact rop_ix | exact rop_eq | exact rop_ne | exact rop_in | exact rop_ni | exact rop_add | exact rop_sub | exact rop_mul | exact rop_lt | exact rop_le | exact rop_gt | exact rop_ge | exact rop_mod | exact rop_div | exact rop_isN | exact rop_notN) (by with_unfolding_all rfl) ?_ | with_reducible refine et_opRo (by first | exact rop_ix | exact rop_eq | exact rop_ne | exact rop_in | exact rop_ni | exact rop_add | exact rop_sub | exact rop_mul | exact rop_lt | exact rop_le | exact rop_gt | exact rop_ge | exact rop_mod | exact rop_div | exact rop_isN | exact rop_notN) (by with_unfolding_all rfl) ?_ | with_reducible refine et_op (by first | exact rop_ix | exact rop_eq | exact rop_ne | exact rop_in | exact rop_ni | exact rop_add | exact rop_sub | exact rop_mul | exact rop_lt | exact rop_le | exact rop_gt | exact rop_ge | exact rop_mod | exact rop_div | exact rop_isN | exact rop_notN) ?_ | with_reducible refine et_cbO (by first | exact rcl_len | exact rcl_int | exact rcl_sum | exact rcl_max | exact rcl_min | exact rcl_all | exact rcl_any) (by with_unfolding_all rfl) ?_ | with_reducible refine et_cb (by first | exact rcl_len | exact rcl_int | exact rcl_sum | exact rcl_max | exact rcl_min | exact rcl_all | exact rcl_any) ?_ | with_reducible refine et_chain (by first | exact rop_ix | exact rop_eq | exact rop_ne | exact rop_in | exact rop_ni | exact rop_add | exact rop_sub | exact rop_mul | exact rop_lt | exact rop_le | exact rop_gt | exact rop_ge | exact rop_mod | exact rop_div | exact rop_isN | exact rop_notN) (by first | exact rop_ix | exact rop_eq | exact rop_ne | exact rop_in | exact rop_ni | exact rop_add | exact rop_sub | exact rop_mul | exact rop_lt | exact rop_le | exact rop_gt | exact rop_ge | exact rop_mod | exact rop_div | exact rop_isN | exact rop_notN) ?_ | with_reducible refine et_dget2O (by with_unfolding_all rfl) ?_ | with_reducible refine et_dget2 ?_ | with_reducible refine et_call0 nolk ?_ | with_reducible refine et_call0 samelk ?_ | with_reducible refine et_sl ?_) | (with_reducible show Wd _ _ _ _; first | with_reducible refine wd_seq ?_ | with_reducible refine wd_if ?_ | with_reducible refine wd_ret ?_ | with_reducible refine wd_next ?_ | with_reducible refine wd_raise ?_ | with_reducible refine wd_dput ?_ | with_reducible refine wd_app (by with_unfolding_all rfl) ?_ | with_reducible refine wd_retN ?_) | (with_reducible show Ea _ _ _ _; first | with_reducible refine ea_nil ?_ | with_reducible refine ea_cons ?_) | (with_reducible show Eb _ _ _ _; first | with_reducible refine eb_or ?_ | with_reducible refine eb_and ?_ | with_reducible refine eb_not ?_ | with_reducible refine eb_B ?_ | with_reducible refine eb_test ?_ | with_reducible refine eb_yes ?_) | (with_reducible show Eo _ _ _ _; first | with_reducible refine eo_none ?_ | with_reducible refine eo_some ?_) | with_reducible refine isTyI (by first | with_unfolding_all rfl | assumption | exact pur_ok (by assumption)) ?_ | with_reducible refine iteT ?_ | with_reducible refine iteF ?_ | with_reducible refine bt (by first | with_unfolding_all rfl | assumption) ?_ | with_reducible refine bf (by first | with_unfolding_all rfl | assumption) ?_ | with_reducible refine nt (by first | with_unfolding_all rfl | assumption) ?_ | with_reducible refine nf (by first | with_unfolding_all rfl | assumption) ?_ | with_reducible refine fin_s ?_ | with_reducible refine fni_s ?_ | with_reducible refine fx0 (by first | with_unfolding_all rfl | assumption) ?_ | with_reducible refine fx1 (by first | with_unfolding_all rfl | assumption) ?_ | with_reducible refine fx2 (by first | with_unfolding_all rfl | assumption) ?_ | with_reducible refine fxlen (by first | with_unfolding_all rfl | assumption) ?_ | with_reducible refine fxit (by first | with_unfolding_all rfl | assumption) ?_ | with_reducible refine feq_i ?_ | with_reducible refine feq_s ?_ | with_reducible refine fne_i ?_ | with_reducible refine fne_s ?_ | with_reducible refine r1_i (by first | with_unfolding_all rfl | assumption | exact pur_ok (by assumption)) ?_ | with_reducible refine sclI (by with_unfolding_all rfl) ?_ | with_reducible refine lenI (by with_unfolding_all rfl) ?_ | with_reducible refine eI ?_ | with_reducible refine addI ?_ | with_reducible refine jI ?_ | with_reducible refine lenLst ?_ | with_reducible refine lenTup ?_ | with_reducible refine lenDct ?_ | with_reducible refine lenStr ?_ | with_reducible refine slL ?_ | with_reducible refine slT ?_ | with_reducible refine slS ?_ | with_reducible refine intI ?_ | with_reducible refine intB ?_ | with_reducible refine itsL ?_ | with_reducible refine itsT ?_ | with_reducible refine itdL ?_ | with_reducible refine itdT ?_ | with_reducible refine kdI ?_ | with_reducible refine kdS ?_ | with_reducible refine exOwn (by with_unfolding_all rfl) ?_ | with_reducible refine exOwnD (by with_unfolding_all rfl) ?_ | with_reducible refine exOwnL (by with_unfolding_all rfl) ?_)
  exact hR
end
end Lw
namespace Lw
open PySem PySem.Spec PyProof.Rows L2 Evl Wv TL
section
variable {P : Program} {w : World} {K : PySem.W.Frag} {mg : Str → Option Value} {base : Heap}
def RTx (T : Txt P K mg) : Rd3 := fun ds Pd _ => ∃ bt ot found ns ons, ds = [netD T bt ot found] ∧ TxT bt ot ns ons ∧ ∀ ys zs, ys.Perm ns → sortedS ys = true → zs.Perm ons → sortedS zs = true → Pd (.str (txN bt ot ys zs))
theorem w_net_text (T : Txt P K mg) : FnOk P w K mg base (L2.CX P w) 11 T.a_Net_text T.d_Net_text ["self"] (spW K false (RTx T)) := by
  refine T.F_Net_text.ok sc_Net_text (fun vs H Q E h => w_len 1 h fun _ _ _ ⟨_, _, _, _, _, e, _⟩ => by rw [e]; rfl) (fun cdv A outer s H vs Q E hr h => ⟨_, (pss_cons (ps_set (i := 1) sc_Net_text.nd rfl (Or.inl rfl) (pe_lst pa_nil)) (pss_cons (ps_for (passes_of rfl) rfl (pi_anyK (K := K) (pe_callB (u_sortA K rfl) rfl T.n_sorted (by decide +kernel) (pa_cons (pe_fld (pv 0) rfl) pa_nil))) (pg_name (i := 2) sc_Net_text.nd rfl (Or.inl rfl)) (pss_cons (ps_set (i := 3) sc_Net_text.nd rfl (Or.inl rfl) (pe_ix (uIxA K (hu64 hr)) (pe_fld (pv 0) rfl) (pv 2) (fun _ _ => rfl))) (pss_one (ps_expr (pe_bm PySem.F.plainAttrs_list PySem.F.slot_list_append PySem.F.type_list_append mt_append (pv 1) (pa_cons (pe_joinT (K := K) pe_str (pe_op (uAdd K) (pe_lst (pa_cons (pe_ix (uIxA K (hu64 hr)) (pv 3) pe_int (fun _ _ => rfl)) (pa_cons (pv 2) (pa_cons (pe_ix (uIxA K (hu64 hr)) (pv 3) pe_int (fun _ _ => rfl)) pa_nil)))) (pe_lc (own := [("wire", 4)]) (g := gName 4) rfl sc_Net_text.nd (pi_anyK (K := K) (pe_call (ok_wires_of_box T) (hr.mono (by omega)) rfl T.g_wires_of_box T.F_wires_of_box.kp T.b_wires_of_box .nil pass0 (pa_cons (pv 3) pa_nil))) (blkOk_by (N := ["self", "lines", "name", "box", "wire", "line"]) (sc := defScope s_Net_text) (by decide +kernel)) (fun _ _ _ _ _ => (pg_name (i := 4) sc_Net_text.nd rfl (Or.inl rfl))) (fun _ _ _ _ _ => pts_nil) (fun _ _ _ _ _ => (pe_call (w_wire_text T) (hr.mono (by omega)) rfl T.g_wire_text T.F_wire_text.kp T.b_wire_text .nil pass0 (pa_cons (pv 4) pa_nil)))))) pa_nil)))))) (pss_cons (ps_for (passes_of rfl) rfl (pi_anyK (K := K) (pe_callB (u_sortA K rfl) rfl T.n_sorted (by decide +kernel) (pa_cons (pe_fld (pv 0) rfl) pa_nil))) (pg_name (i := 2) sc_Net_text.nd rfl (Or.inl rfl)) (pss_one (ps_expr (pe_bm PySem.F.plainAttrs_list PySem.F.slot_list_append PySem.F.type_list_append mt_append (pv 1) (pa_cons (pe_joinT (K := K) pe_str (pe_lst (pa_cons pe_str (pa_cons (pv 2) (pa_cons (pe_call (w_wire_text T) (hr.mono (by omega)) rfl T.g_wire_text T.F_wire_text.kp T.b_wire_text .nil pass0 (pa_cons (pe_ix (uIxA K (hu64 hr)) (pe_fld (pv 0) rfl) (pv 2) (fun _ _ => rfl)) pa_nil)) pa_nil))))) pa_nil))))) (pss_one (ps_ret (pe_joinT (K := K) pe_str (pe_lc (own := [("line", 5)]) (g := gName 5) rfl sc_Net_text.nd (pi_anyK (K := K) (pv 1)) (blkOk_by (N := ["self", "lines", "name", "box", "wire", "line"]) (sc := defScope s_Net_text) (by decide +kernel)) (fun _ _ _ _ _ => (pg_name (i := 5) sc_Net_text.nd rfl (Or.inl rfl))) (fun _ _ _ _ _ => pts_nil) (fun _ _ _ _ _ => (pe_op (uAdd K) (pv 5) pe_str))))))))), w_start h 6 rfl fun ds Pd xe ⟨bt, ot, found, ns, ons, e, hT, p⟩ => ?_⟩)
  subst e
  refine ⟨Nat.le_of_ble_eq_true rfl, ?_⟩
  refine wd_seq (wd_asgO (ef_lst (ea_nil ⟨Nat.zero_le _, ?_⟩)))
  have zn : ∀ z ∈ ns, z.length ≤ Zz := fun z hz => by have := (word_ok (hT.hb z hz).1).2.1; simp only [Zz]; omega
  have zo : ∀ z ∈ ons, z.length ≤ Zz := fun z hz => by have := (word_ok (hT.ho z hz).1).2.1; simp only [Zz]; omega
  have hln := hT.ln
  have hln : ns.length + ons.length ≤ 8 := by omega
  refine wd_seq (wd_for (ei_seq (Ef.et (ef_cb rcf_sort (et_fld T.l_Net T.o_Net_box_table (et_var rfl ⟨_, _, rfl, rfl, ns, hT.kb, zn, by omega, fun ys hy hs => itsL ?_⟩))))))
  refine ⟨fun i e => ∃ s2 s3, e = [.v (netD T bt ot found), .own (.lst (((ys.take i).map (bxLn bt)).map .str)), s2, s3, .no, .no], ⟨_, _, rfl⟩, ?_, ?_⟩
  · rintro i d e hi ⟨s2, s3, rfl⟩
    obtain ⟨n, hn, rfl⟩ := strAtX hi
    have et : ys.take (i + 1) = ys.take i ++ [n] := by rw [List.take_add_one, hn]; rfl
    have hin : i < ys.length := (List.getElem?_eq_some_iff.mp hn).1
    have hyl := hy.length_eq
    obtain ⟨hw, b, ws, h1, h2⟩ := hT.hb n (hy.mem_iff.mp (List.mem_of_getElem? hn))
    have hBl := hT.bl (hy.mem_iff.mp (List.mem_of_getElem? hn))
    have eB : bxLn bt n = lnJ (bxL n b) := by unfold bxLn; rw [h1]; rfl
    obtain ⟨q1, q2⟩ := bxL_ok hw h2
    refine tg_name (wd_seq (wd_asg (et_op rop_ix (et_fld T.l_Net T.o_Net_box_table (et_var rfl ⟨_, _, rfl, rfl, et_var rfl ⟨b, h1, ?_⟩⟩)))))
    show Wd _ [.v (netD T bt ot found), .own (.lst (((ys.take i).map (bxLn bt)).map .str)), .v (.str n), .v b, .no, .no] _ _
    obtain ⟨a, c, r, ei, eL⟩ := h2.sh n
    have hs3 : (((bxL n b).map (·.length)).sum) ≤ 1600 * (bxL n b).length := sum_le (k := 1600) q1
    have hs4 : 1600 * (bxL n b).length ≤ 1600 * 7 := Nat.mul_le_mul_left _ q2
    have hjl := ln_len q1 q2
    refine wd_app rfl (et_join (et_str ⟨_, rfl, et_op rop_add (Ef.et (ef_lst (ea_cons (et_op rop_ix (et_var rfl (et_int (fxN (i := 0) ei rfl (ea_cons (et_var rfl (ea_cons (et_op rop_ix (et_var rfl (et_int (fxN (i := 1) ei rfl (ea_nil ⟨Nat.le_of_ble_eq_true rfl, Ef.et (ef_mapY (fun d => .str (wtD d)) (ei_seq (et_call0 nolk (ea_cons (et_var rfl (ea_nil (r1_i h2.kb.kBox ?_)))))))⟩)))))))))))))))⟩))
    rw [h2.kb.wob]
    refine itsL ⟨nown_no rfl, fun d hd => ?_, ?_⟩
    · obtain ⟨x, hx, rfl⟩ := List.mem_map.mp hd
      have hxx := h2.wx x hx
      exact et_call0 nolk (ea_cons (et_var rfl (ea_nil ⟨x, rfl, hxx.w, hxx.t, hxx.l, rfl, rfl⟩)))
    · have e3 : [Dt.str a, Dt.str n, Dt.str c] ++ (ws.map wD).map (fun d => .str (wtD d)) = (bxL n b).map .str := by
        rw [eL, List.map_append, List.map_map, List.map_map]
        rfl
      refine ⟨?_, ?_⟩
      · have := congrArg List.length eL
        rw [List.length_append, List.length_map] at this
        rw [List.length_map, List.length_map]
        simp only [List.length_cons, List.length_nil, Zz] at this ⊢
        omega
      rw [e3]
      refine ⟨bxL n b, .inl rfl, by rw [spS]; omega, Nat.le_trans hjl (by decide), _, rfl, ?_, ?_⟩
      · rw [List.length_map, List.length_map, List.length_take]
        simp only [Zz]
        omega
      · refine ⟨.v (.str n), .v b, ?_⟩
        rw [et, List.map_append, List.map_append]
        show _ = [_, Sl.own (.lst (_ ++ [Dt.str (bxLn bt n)])), _, _, _, _]
        rw [eB]
        rfl
  rintro e ⟨s2, s3, rfl⟩
  rw [List.length_map, List.take_length]
  refine wd_seq (wd_for (ei_seq (Ef.et (ef_cb rcf_sort (et_fld T.l_Net T.o_Net_output_table (et_var rfl ⟨_, _, rfl, rfl, ons, hT.ko, zo, by omega, fun zs hz hs2 => itsL ?_⟩))))))
  have hzl := hz.length_eq
  have hyl := hy.length_eq
  refine ⟨fun i e => ∃ s2, e = [.v (netD T bt ot found), .own (.lst ((ys.map (bxLn bt) ++ (zs.take i).map (otLn ot)).map .str)), s2, s3, .no, .no], ⟨_, by rw [List.take_zero, List.map_nil, List.append_nil]⟩, ?_, ?_⟩
  · rintro i d e hi ⟨s2, rfl⟩
    obtain ⟨n, hn, rfl⟩ := strAtX hi
    have et : zs.take (i + 1) = zs.take i ++ [n] := by rw [List.take_add_one, hn]; rfl
    have hin : i < zs.length := (List.getElem?_eq_some_iff.mp hn).1
    obtain ⟨hw, x, h1, h2⟩ := hT.ho n (hz.mem_iff.mp (List.mem_of_getElem? hn))
    have eB : otLn ot n = lnJ (otL n (wD x)) := by unfold otLn; rw [h1]; rfl
    obtain ⟨q1, q2⟩ := otL_ok hw h2
    have hs3 : (((otL n (wD x)).map (·.length)).sum) ≤ 1600 * (otL n (wD x)).length := sum_le (k := 1600) q1
    have hs4 : 1600 * (otL n (wD x)).length ≤ 1600 * 7 := Nat.mul_le_mul_left _ q2
    have hjl := ln_len q1 q2
    refine tg_name (wd_app rfl (et_join (et_str ⟨_, rfl, Ef.et (ef_lst (ea_cons (et_str (ea_cons (et_var rfl (ea_cons (et_call0 nolk (ea_cons (et_op rop_ix (et_fld T.l_Net T.o_Net_output_table (et_var rfl ⟨_, _, rfl, rfl, et_var rfl ⟨wD x, h1, ea_nil ⟨x, rfl, h2.w, h2.t, h2.l, ea_nil ⟨Nat.le_of_ble_eq_true rfl, ?_⟩⟩⟩⟩)))))))))))⟩)))
    refine ⟨otL n (wD x), .inl rfl, by rw [spS]; omega, Nat.le_trans hjl (by decide), _, rfl, ?_, ?_⟩
    · rw [List.length_map, List.length_append, List.length_map, List.length_map, List.length_take]
      simp only [Zz]
      omega
    · refine ⟨.v (.str n), ?_⟩
      rw [et, List.map_append (l₁ := zs.take i), ← List.append_assoc, List.map_append (l₂ := [n].map (otLn ot))]
      show _ = [_, Sl.own (.lst (_ ++ [Dt.str (otLn ot n)])), _, _, _, _]
      rw [eB]
      rfl
  rintro e ⟨s2, rfl⟩
  rw [List.length_map, List.take_length]
  obtain ⟨t1, t2⟩ := hT.tl hy hz
  obtain ⟨x1, x2⟩ := hT.tx hy hz
  show Wd _ [.v (netD T bt ot found), .own (.lst ((txL bt ot ys zs).map .str)), s2, s3, .no, .no] _ _
  refine wd_ret (et_join (et_str ⟨_, rfl, Ef.et (ef_mapY (fun d => match d with | .str l => .str (l ++ Str.ofString "\n") | x => x) (ei_seq (et_own rfl (itsL ?_))))⟩))
  refine ⟨nown_no rfl, fun d hd => ?_, (txL bt ot ys zs).map fun l => l ++ Str.ofString "\n", .inl (by rw [List.map_map, List.map_map]; rfl), by rw [emS]; omega, by show (txN bt ot ys zs).length ≤ Zz; simp only [Zz]; omega, p ys zs hy hs hz hs2⟩
  obtain ⟨l, hl, rfl⟩ := List.mem_map.mp hd
  have := t1 l hl
  exact et_op rop_add (et_var rfl (et_str ⟨by rw [nlS]; simp only [Zz]; omega, rfl, rfl⟩))
end
end Lw
namespace Lw
open PySem PySem.Spec PyProof.Rows L2 Evl Wv
/-! ### _law_same of one thing twice -/
def smB : Nat → Dt → Bool
  | 0, _ => false
  | n + 1, .lst xs => xs.all (smB n)
  | n + 1, .tup xs => xs.all (smB n)
  | _ + 1, .str z => PyData.strOk z
  | _ + 1, .non => true
  | _ + 1, .bl _ => true
  | _ + 1, .int _ => true
  | _ + 1, .dct ks => ks.all (fun kv => dat kv.2 && decide (dep kv.2 < 50)) && decide ((ks.map (·.1)).Nodup)
  | _ + 1, _ => false
theorem zip_same {xs : List Dt} {d : Dt} (h : d ∈ zipD xs xs) : ∃ a ∈ xs, d = .tup [a, a] := by
  unfold zipD at h
  obtain ⟨i, hi⟩ := List.mem_iff_getElem?.mp h
  rw [List.getElem?_zipWith] at hi
  cases e : xs[i]? with
  | none => rw [e] at hi; cases hi
  | some a => rw [e] at hi; cases hi; exact ⟨a, List.mem_of_getElem? e, rfl⟩
theorem fne_b {a : Bool} {k : Dt → Prop} (p : k (.bl false)) : fNe (.bl a) (.bl a) k := by
  show k (.bl (!decide (a = a)))
  rw [decide_eq_true rfl]
  exact p
theorem feq_b {a : Bool} {k : Dt → Prop} (p : k (.bl true)) : fEq (.bl a) (.bl a) k := by
  show k (.bl (decide (a = a)))
  rw [decide_eq_true rfl]
  exact p
theorem all_true' {xs : List Dt} : xs.all (fun _ => true) = true := List.all_eq_true.mpr fun _ _ => rfl
end Lw
namespace Lw
open PySem PySem.Spec PyProof.Rows L2 Evl Wv
set_option hygiene false in
local macro_rules
  | `(tactic| ac_rfl) => `(tactic| repeat' (first | (with_reducible show Et _ _ _ _; first | with_reducible refine et_popAt (by with_unfolding_all rfl) ?_ | with_reducible refine et_var (by with_unfolding_all rfl) ?_ | with_reducible refine et_int ?_ | with_reducible refine et_str ?_ | with_reducible refine et_bl ?_ | with_reducible refine et_non ?_ | with_reducible refine et_andV ?_ | with_reducible refine et_orV ?_ | with_reducible refine et_notV ?_ | with_reducible refine et_if ?_ | with_reducible refine et_isStr ?_ | with_reducible refine et_isInt ?_ | with_reducible refine et_isBool ?_ | with_reducible refine et_isDict ?_ | with_reducible refine et_isList ?_ | with_reducible refine et_isTuple ?_ | with_reducible refine et_isLT ?_ | with_reducible refine et_tup ?_ | with_reducible refine et_neg ?_ | with_reducible refine et_ixO (by with_unfolding_all rfl) ?_ | with_reducible refine et_opL (by first | exact rop_ix | exact rop_eq | exact rop_ne | exact rop_in | exact rop_ni | exact rop_add | exact rop_sub | exact rop_mul | exact rop_lt | exact rop_le | exact rop_gt | exact rop_ge | exact rop_mod | exact rop_div | exact rop_isN | exact rop_notN) (by with_unfolding_all rfl) ?_ | with_reducible refine et_opRo (by first | exact rop_ix | exact rop_eq | exact rop_ne | exact rop_in | exact rop_ni | exact rop_add | exact rop_sub | exact rop_mul | exact rop_lt | exact rop_le | exact rop_gt | exact rop_ge | exact rop_mod | exact rop_div | exact rop_isN | exact rop_notN) (by with_unfolding_all rfl) ?_ | with_reducible refine et_op (by first | exact rop_ix | exact rop_eq | exact rop_ne | exact rop_in | exact rop_ni | exact rop_add | exact rop_sub | exact rop_mul | exact rop_lt | exact rop_le | exact rop_gt | exact rop_ge | exact rop_mod | exact rop_div | exact rop_isN | exact rop_notN) ?_ | with_reducible refine et_cbO (by first | exact rcl_len | exact rcl_int | exact rcl_sum | exact rcl_max | exact rcl_min | exact rcl_all | exact rcl_any) (by with_unfolding_all rfl) ?_ | with_reducible refine et_cb (by first | exact rcl_len | exact rcl_int | exact rcl_sum | exact rcl_max | exact rcl_min | exact rcl_all | exact rcl_any) ?_ | with_reducible refine et_chain (by first | exact rop_ix | exact rop_eq | exact rop_ne | exact rop_in | exact rop_ni | exact rop_add | exact rop_sub | exact rop_mul | exact rop_lt | exact rop_le | exact rop_gt | exact rop_ge | exact rop_mod | exact rop_div | exact rop_isN | exact rop_notN) (by first | exact rop_ix | exact rop_eq | exact rop_ne | exact rop_in | exact rop_ni | exact rop_add | exact rop_sub | exact rop_mul | exact rop_lt | exact rop_le | exact rop_gt | exact rop_ge | exact rop_mod | exact rop_div | exact rop_isN | exact rop_notN) ?_ | with_reducible refine et_dget2O (by with_unfolding_all rfl) ?_ | with_reducible refine et_dget2 ?_ | with_reducible refine et_call0 nolk ?_ | with_reducible refine et_call0 samelk ?_ | with_reducible refine et_sl ?_) | (with_reducible show Wd _ _ _ _; first | with_reducible refine wd_seq ?_ | with_reducible refine wd_if ?_ | with_reducible refine wd_ret ?_ | with_reducible refine wd_next ?_ | with_reducible refine wd_raise ?_ | with_reducible refine wd_dput ?_ | with_reducible refine wd_app (by with_unfolding_all rfl) ?_ | with_reducible refine wd_retN ?_) | (with_reducible show Ea _ _ _ _; first | with_reducible refine ea_nil ?_ | with_reducible refine ea_cons ?_) | (with_reducible show Eb _ _ _ _; first | with_reducible refine eb_or ?_ | with_reducible refine eb_and ?_ | with_reducible refine eb_not ?_ | with_reducible refine eb_B ?_ | with_reducible refine eb_test ?_ | with_reducible refine eb_yes ?_) | (with_reducible show Eo _ _ _ _; first | with_reducible refine eo_none ?_ | with_reducible refine eo_some ?_) | with_reducible refine isTyI (by first | with_unfolding_all rfl | assumption | exact pur_ok (by assumption)) ?_ | with_reducible refine iteT ?_ | with_reducible refine iteF ?_ | with_reducible refine bt (by first | with_unfolding_all rfl | assumption) ?_ | with_reducible refine bf (by first | with_unfolding_all rfl | assumption) ?_ | with_reducible refine nt (by first | with_unfolding_all rfl | assumption) ?_ | with_reducible refine nf (by first | with_unfolding_all rfl | assumption) ?_ | with_reducible refine fin_s ?_ | with_reducible refine fni_s ?_ | with_reducible refine fx0 (by first | with_unfolding_all rfl | assumption) ?_ | with_reducible refine fx1 (by first | with_unfolding_all rfl | assumption) ?_ | with_reducible refine fx2 (by first | with_unfolding_all rfl | assumption) ?_ | with_reducible refine fxlen (by first | with_unfolding_all rfl | assumption) ?_ | with_reducible refine fxit (by first | with_unfolding_all rfl | assumption) ?_ | with_reducible refine feq_i ?_ | with_reducible refine feq_s ?_ | with_reducible refine fne_i ?_ | with_reducible refine fne_s ?_ | with_reducible refine r1_i (by first | with_unfolding_all rfl | assumption | exact pur_ok (by assumption)) ?_ | with_reducible refine sclI (by with_unfolding_all rfl) ?_ | with_reducible refine lenI (by with_unfolding_all rfl) ?_ | with_reducible refine eI ?_ | with_reducible refine addI ?_ | with_reducible refine jI ?_ | with_reducible refine lenLst ?_ | with_reducible refine lenTup ?_ | with_reducible refine lenDct ?_ | with_reducible refine lenStr ?_ | with_reducible refine slL ?_ | with_reducible refine slT ?_ | with_reducible refine slS ?_ | with_reducible refine intI ?_ | with_reducible refine intB ?_ | with_reducible refine itsL ?_ | with_reducible refine itsT ?_ | with_reducible refine itdL ?_ | with_reducible refine itdT ?_ | with_reducible refine kdI ?_ | with_reducible refine kdS ?_ | with_reducible refine exOwn (by with_unfolding_all rfl) ?_ | with_reducible refine exOwnD (by with_unfolding_all rfl) ?_ | with_reducible refine exOwnL (by with_unfolding_all rfl) ?_))
section
variable {P : Program} {w : World} {K : PySem.W.Frag} {mg : Str → Option Value} {base : Heap}
def RSame (n : Nat) : Rd3 := fun ds Pd _ => ∃ d, ds = [d, d] ∧ smB n d = true ∧ Pd (.bl true)
theorem w_same (T : Txt P K mg) (n : Nat) : FnOk P w K mg base CX0 (n + 1) T.a_same T.d_same ["_law_found", "_law_due"] (spW K false (RSame n)) := by
  induction n with
  | zero => exact ⟨fun vs H Q E h => w_len 2 h fun _ _ _ ⟨_, e, _⟩ => by rw [e]; rfl, fun A outer s H args us vs Q E _ _ _ _ h => by obtain ⟨_, _, _, _, _, _, _, _, ⟨_, _, h, _⟩, _⟩ := h; cases h⟩
  | succ n ih =>
    refine T.F_same.ok sc_same (fun vs H Q E h => w_len 2 h fun _ _ _ ⟨_, e, _⟩ => by rw [e]; rfl) (fun cdv A outer s H vs Q E hr h => ⟨_, PSs.nox (pss_cons (ps_if (pt_val (pe_callB (u_isinstance K) rfl T.n_isinstance (by decide +kernel) (pa_cons (pv 1) (pa_cons (pe_tup (pa_cons (pe_bltn (v := .ty "list") rfl T.n_list (by decide +kernel) rfl) (pa_cons (pe_bltn (v := .ty "tuple") rfl T.n_tuple (by decide +kernel) rfl) pa_nil))) pa_nil)))) (pss_cons (ps_if (PW.pt (pw_or (pt_cmpR (uNe K (hu64 hr)) (pe_callB (u_isinstance K) rfl T.n_isinstance (by decide +kernel) (pa_cons (pv 0) (pa_cons (pe_bltn (v := .ty "list") rfl T.n_list (by decide +kernel) rfl) pa_nil))) (pe_callB (u_isinstance K) rfl T.n_isinstance (by decide +kernel) (pa_cons (pv 1) (pa_cons (pe_bltn (v := .ty "list") rfl T.n_list (by decide +kernel) rfl) pa_nil))) (nomark _)) (pw_or1 (pt_cmpR (uNe K (hu64 hr)) (pe_callB (u_isinstance K) rfl T.n_isinstance (by decide +kernel) (pa_cons (pv 0) (pa_cons (pe_bltn (v := .ty "tuple") rfl T.n_tuple (by decide +kernel) rfl) pa_nil))) (pe_callB (u_isinstance K) rfl T.n_isinstance (by decide +kernel) (pa_cons (pv 1) (pa_cons (pe_bltn (v := .ty "tuple") rfl T.n_tuple (by decide +kernel) rfl) pa_nil))) (nomark _))))) (pss_one (ps_ret pe_bl)) pss_nil) (pss_one (ps_ret (pe_and (pe_cmpR (uEq K (hu64 hr)) (pe_callB (u_lenA K) rfl T.n_len (by decide +kernel) (pa_cons (pv 0) pa_nil)) (pe_callB (u_lenA K) rfl T.n_len (by decide +kernel) (pa_cons (pv 1) pa_nil)) (nomark _)) (pe_one (pe_callB (u_allA K rfl) rfl T.n_all (by decide +kernel) (pa_cons (pe_lc (own := [("_law_a", 2), ("_law_b", 3)]) (g := gTup K 2 (gCons (gName 2) (gCons (gName 3) gNil))) rfl sc_same.nd (pi_zipK (K := K) rfl T.n_zip (pa_cons (pv 0) (pa_cons (pv 1) pa_nil))) (blkOk_by (N := ["_law_found", "_law_due", "_law_a", "_law_b"]) (sc := defScope s_same) (by decide +kernel)) (fun _ _ _ _ _ => (pg_tupK (K := K) (n := 2) rfl (pgs_cons (pg_name (i := 2) sc_same.nd rfl (Or.inl rfl)) (pgs_cons (pg_name (i := 3) sc_same.nd rfl (Or.inl rfl)) pgs_nil)))) (fun _ _ _ _ _ => pts_nil) (fun _ _ _ _ _ => (pe_call ih hr rfl T.g_same T.F_same.kp T.b_same .nil pass0 (pa_cons (pv 2) (pa_cons (pv 3) pa_nil))))) pa_nil))))))) pss_nil) (pss_cons (ps_if (pt_val (pe_callB (u_isinstance K) rfl T.n_isinstance (by decide +kernel) (pa_cons (pv 1) (pa_cons (pe_bltn (v := .ty "int") rfl T.n_int (by decide +kernel) rfl) pa_nil)))) (pss_one (ps_ret (pe_and (pe_callB (u_isinstance K) rfl T.n_isinstance (by decide +kernel) (pa_cons (pv 0) (pa_cons (pe_bltn (v := .ty "int") rfl T.n_int (by decide +kernel) rfl) pa_nil))) (pe_and (pe_cmpR (uEq K (hu64 hr)) (pe_callB (u_isinstance K) rfl T.n_isinstance (by decide +kernel) (pa_cons (pv 0) (pa_cons (pe_bltn (v := .ty "bool") rfl T.n_bool (by decide +kernel) rfl) pa_nil))) (pe_callB (u_isinstance K) rfl T.n_isinstance (by decide +kernel) (pa_cons (pv 1) (pa_cons (pe_bltn (v := .ty "bool") rfl T.n_bool (by decide +kernel) rfl) pa_nil))) (nomark _)) (pe_one (pe_cmpR (uEq K (hu64 hr)) (pv 0) (pv 1) (nomark _))))))) pss_nil) (pss_one (ps_ret (pe_and (pe_cmpR op_isBl (pe_callB (u_isinstance K) rfl T.n_isinstance (by decide +kernel) (pa_cons (pv 0) (pa_cons (pe_tup (pa_cons (pe_bltn (v := .ty "bool") rfl T.n_bool (by decide +kernel) rfl) (pa_cons (pe_bltn (v := .ty "int") rfl T.n_int (by decide +kernel) rfl) (pa_cons (pe_bltn (v := .ty "list") rfl T.n_list (by decide +kernel) rfl) (pa_cons (pe_bltn (v := .ty "tuple") rfl T.n_tuple (by decide +kernel) rfl) pa_nil))))) pa_nil))) pe_bl (nomark _)) (pe_one (pe_cmpR (uEq K (hu64 hr)) (pv 0) (pv 1) (nomark _)))))))), w_start h 4 rfl fun ds Pd xe ⟨d, e, hd, p⟩ => ?_⟩)
    subst e
    refine ⟨Nat.le_of_ble_eq_true rfl, ?_⟩
    have isL2 : ∀ xs : List Dt, xs.all (smB n) = true → ∀ d ∈ zipD xs xs, ∃ d1 d2, d = .tup [d1, d2] ∧ d1 = d2 ∧ smB n d1 = true := fun xs h d hd => by
      obtain ⟨a, ha, rfl⟩ := zip_same hd
      exact ⟨a, a, rfl, rfl, List.all_eq_true.mp h a ha⟩
    cases d with
    | lst xs =>
      have hd : xs.all (smB n) = true := hd
      ac_rfl
      refine fne_b (Wv.bf rfl ?_)
      ac_rfl
      refine fne_b (Wv.bf rfl ?_)
      ac_rfl
      refine Wv.bt (decide_eq_true rfl) (et_all2Y (by decide) (fun _ => true) (ei_zip ?_))
      ac_rfl
      refine ⟨xs, xs, rfl, nown_no rfl, nown_no rfl, fun d hd2 => ?_, by rw [all_true']; exact p⟩
      obtain ⟨d1, d2, rfl, rfl, h1⟩ := isL2 xs hd d hd2
      exact ⟨_, _, rfl, et_call0 nolk (ea_cons (et_var rfl (ea_cons (et_var rfl (ea_nil ⟨_, rfl, h1, rfl, rfl⟩)))))⟩
    | tup xs =>
      have hd : xs.all (smB n) = true := hd
      ac_rfl
      refine fne_b (Wv.bf rfl ?_)
      ac_rfl
      refine fne_b (Wv.bf rfl ?_)
      ac_rfl
      refine Wv.bt (decide_eq_true rfl) (et_all2Y (by decide) (fun _ => true) (ei_zipT ?_))
      ac_rfl
      refine ⟨xs, xs, rfl, nown_no rfl, nown_no rfl, fun d hd2 => ?_, by rw [all_true']; exact p⟩
      obtain ⟨d1, d2, rfl, rfl, h1⟩ := isL2 xs hd d hd2
      exact ⟨_, _, rfl, et_call0 nolk (ea_cons (et_var rfl (ea_cons (et_var rfl (ea_nil ⟨_, rfl, h1, rfl, rfl⟩)))))⟩
    | str z =>
      ac_rfl
      refine et_op rop_isB (et_isBILT ?_)
      ac_rfl
      refine Wv.bt rfl ?_
      ac_rfl
      rw [decide_eq_true rfl]
      exact p
    | non =>
      ac_rfl
      refine et_op rop_isB (et_isBILT ?_)
      ac_rfl
      refine Wv.bt rfl ?_
      ac_rfl
      exact ⟨shp_of rfl (by decide), shp_of rfl (by decide), p⟩
    | int i =>
      ac_rfl
      refine feq_b (Wv.bt rfl ?_)
      ac_rfl
      rw [decide_eq_true rfl]
      exact p
    | bl b =>
      ac_rfl
      refine feq_b (Wv.bt rfl ?_)
      ac_rfl
      exact feq_b p
    | dct ks =>
      obtain ⟨h1, h2⟩ := Bool.and_eq_true_iff.mp (show (ks.all (fun kv => dat kv.2 && decide (dep kv.2 < 50)) && decide ((ks.map (·.1)).Nodup)) = true from hd)
      have h3 : ∀ kv ∈ ks, dat kv.2 = true ∧ dep kv.2 < 50 := fun kv hkv => by
        obtain ⟨a, b⟩ := Bool.and_eq_true_iff.mp (List.all_eq_true.mp h1 kv hkv)
        exact ⟨a, of_decide_eq_true b⟩
      ac_rfl
      refine et_op rop_isB (et_isBILT ?_)
      ac_rfl
      refine Wv.bt rfl ?_
      ac_rfl
      refine ⟨fun kv hkv => shk_of (h3 kv hkv).1 (h3 kv hkv).2, fun kv hkv => shk_of (h3 kv hkv).1 (h3 kv hkv).2, ?_⟩
      rw [eqK_refl (of_decide_eq_true h2) fun kv hkv => (h3 kv hkv).1]
      exact p
    | _ => unfold smB at hd; cases hd
end
end Lw
namespace Lw
open PySem PySem.Spec PyProof.Rows L2 Evl Wv
/-! ### a law starts -/
def lamQ : Str := (("law" : Str) ++ ".<locals>.") ++ "<lambda>"
/-- what a law is handed: the script's list, the empty tables of code objects -/
def spLawT (K : PySem.W.Frag) (cs : List (Addr × Addr)) : Sp := fun vs H Q _ => ∃ (a : Addr) (ns : List Int), vs = [.ref a] ∧ SqL K H a (ns.map V.int) ∧ ns.length ≤ 63 ∧ (∀ p ∈ cs, H p.2 = some (.tbl #[])) ∧ ∀ H', Q (.bl true) H'
theorem law_beginM {K : PySem.W.Frag} {E : XK} {N : List Str} {vs : List V} {H : Hp} {Q : VK} {t : TS} {cs : List (Addr × Addr)} {ts : List (Addr × Str)} (hts : ∀ p ∈ ts, ∃ q ∈ cs, p.1 = q.2) (h : spLawT K cs vs H Q E) (n : Nat) (hN : N.length = n + 2)
    (hw : Wd ⟨K, E, fun _ _ => False, true, ts⟩ (.no :: .v .st :: List.replicate n .no) t { nx := fun _ => False, rt := fun d => d = .bl true }) :
    tSeq (tAsg (tCall (spFresh K) [] E0 (tCons (tVar 0) tNil)) (gName 1)) t { nx := fun _ H' => Q .non H', rt := Q } (L2.start N vs) H := by
  obtain ⟨a, ns, rfl, hS, hl, hT, hQ⟩ := h
  have es : L2.start N [V.ref a] = some (.ref a) :: none :: List.replicate n none := by
    unfold L2.start
    rw [hN]
    rfl
  rw [es]
  refine ⟨_, rfl, a, ns, rfl, hS, hl, fun s c ns' H1 hs hc hc1 e1 S1 => ?_⟩
  obtain ⟨n0, l0, m0, S4⟩ := S1
  have tb : LamX.Tabs ts H1 := fun p hp => by
    obtain ⟨q, hq, e⟩ := hts p hp
    refine LamX.TabS.nil (e1 _ _ ?_)
    rw [e]
    exact hT q hq
  have dm : ∀ b, (b = s ∨ b = c ∨ ∃ q, (b, q) ∈ ts) → H1 b ≠ none := fun b hb => by
    rcases hb with rfl | rfl | ⟨q, hq⟩
    · rw [S4.st]; exact fun z => nomatch z
    · exact hc1
    · obtain ⟨_, h1, _⟩ := tb _ hq
      have h1 : H1 b = _ := h1
      rw [h1]; exact fun z => nomatch z
  have own : ∀ (i : Nat) (d : Dt), (Sl.no :: Sl.v Dt.st :: List.replicate n Sl.no)[i]? ≠ some (Sl.own d) := fun i d z => by
    match i, z with
    | 0, z => cases z
    | 1, z => cases z
    | i + 2, z =>
      have z : (List.replicate n Sl.no)[i]? = _ := z
      rw [List.getElem?_replicate] at z
      split at z <;> cases z
  have nfz : ∀ (i : Nat) (d : Reg), (Sl.no :: Sl.v Dt.st :: List.replicate n Sl.no)[i]? ≠ some (Sl.fz d) := fun i d z => by
    match i, z with
    | 0, z => cases z
    | 1, z => cases z
    | i + 2, z =>
      have z : (List.replicate n Sl.no)[i]? = _ := z
      rw [List.getElem?_replicate] at z
      split at z <;> cases z
  refine hw ⟨H1, some s, ⟨c, ts⟩, fun b => b = s ∨ b = c ∨ ∃ q, (b, q) ∈ ts, true, true⟩ ⟨rfl, fun _ _ z => z.elim, .inr rfl⟩ (some (.ref a) :: some (.ref s) :: List.replicate n none) H1 ⟨⟨Ko.refl, id, fun b hb => ?_, dm, ⟨⟨ns', n0, l0, m0, S4⟩, tb⟩⟩, ?_, fun i j d e a z => absurd z (own i d), fun i d b z => absurd z (own i d), fun i d z => absurd z (nfz i d), fun i d z => ?_, fun i d z => absurd z (own i d)⟩ _
    (fun _ _ _ _ _ z => z.elim) (fun _ _ _ _ _ z => z.elim) (fun _ _ _ _ _ z => z.elim) (fun x d H' e _ _ r => ?_) fun _ _ _ _ _ z => z.elim
  · rcases hb with z | z
    · exact ⟨.inl (Option.some.inj z).symm, fun _ _ => .inr (.inl rfl)⟩
    · exact ⟨.inr (.inr z), fun _ _ => .inr (.inl rfl)⟩
  · simp
  · match i, z with
    | 0, z => cases z
    | 1, z => cases z; exact ⟨.ref s, rfl, .st rfl⟩
    | i + 2, z =>
      have z : (List.replicate n Sl.no)[i]? = _ := z
      rw [List.getElem?_replicate] at z
      split at z <;> cases z
  · subst e
    cases r
    exact hQ H'
theorem law_begin {K : PySem.W.Frag} {E : XK} {N : List Str} {vs : List V} {H : Hp} {Q : VK} {t : TS} {cs : List (Addr × Addr)} (h : spLawT K cs vs H Q E) (n : Nat) (hN : N.length = n + 2)
    (hw : Wd ⟨K, E, fun _ _ => False, true, cs.map fun p => (p.2, lamQ)⟩ (.no :: .v .st :: List.replicate n .no) t { nx := fun _ => False, rt := fun d => d = .bl true }) :
    tSeq (tAsg (tCall (spFresh K) [] E0 (tCons (tVar 0) tNil)) (gName 1)) t { nx := fun _ H' => Q .non H', rt := Q } (L2.start N vs) H :=
  law_beginM (fun p hp => by obtain ⟨q, hq, rfl⟩ := List.mem_map.mp hp; exact ⟨q, hq, rfl⟩) h n hN hw
/-- what a law without calls that are tried is handed -/
def spLaw (K : PySem.W.Frag) : Sp := fun vs H Q _ => ∃ (a : Addr) (ns : List Int), vs = [.ref a] ∧ SqL K H a (ns.map V.int) ∧ ns.length ≤ 63 ∧ ∀ H', Q (.bl true) H'
theorem spLaw.t {K : PySem.W.Frag} {vs : List V} {H : Hp} {Q : VK} {E : XK} (h : spLaw K vs H Q E) : spLawT K [] vs H Q E := by
  obtain ⟨a, ns, h1, h2, h3, h4⟩ := h
  exact ⟨a, ns, h1, h2, h3, fun p hp => (by cases hp), h4⟩
end Lw
namespace Lw
open PySem PySem.Spec PyProof.Rows L2 Evl Wv TL
set_option hygiene false in
local macro_rules
  | `(tactic| ac_rfl) => `(tactic| repeat' (first | (with_reducible show Et _ _ _ _; first | with_reducible refine et_popAt (by with_unfolding_all rfl) ?_ | with_reducible refine et_var (by with_unfolding_all rfl) ?_ | with_reducible refine et_int ?_ | with_reducible refine et_str ?_ | with_reducible refine et_bl ?_ | with_reducible refine et_non ?_ | with_reducible refine et_andV ?_ | with_reducible refine et_orV ?_ | with_reducible refine et_notV ?_ | with_reducible refine et_if ?_ | with_reducible refine et_isStr ?_ | with_reducible refine et_isInt ?_ | with_reducible refine et_isBool ?_ | with_reducible refine et_isDict ?_ | with_reducible refine et_isList ?_ | with_reducible refine et_isTuple ?_ | with_reducible refine et_isLT ?_ | with_reducible refine et_tup ?_ | with_reducible refine et_neg ?_ | with_reducible refine et_ixO (by with_unfolding_all rfl) ?_ | with_reducible refine et_opL (by first | exact rop_ix | exact rop_eq | exact rop_ne | exact rop_in | exact rop_ni | exact rop_add | exact rop_sub | exact rop_mul | exact rop_lt | exact rop_le | exact rop_gt | exact rop_ge | exact rop_mod | exact rop_div | exact rop_isN | exact rop_notN) (by with_unfolding_all rfl) ?_ | with_reducible refine et_opRo (by first | exact rop_ix | exact rop_eq | exact rop_ne | exact rop_in | exact rop_ni | exact rop_add | exact rop_sub | exact rop_mul | exact rop_lt | exact rop_le | exact rop_gt | exact rop_ge | exact rop_mod | exact rop_div | exact rop_isN | exact rop_notN) (by with_unfolding_all rfl) ?_ | with_reducible refine et_op (by first | exact rop_ix | exact rop_eq | exact rop_ne | exact rop_in | exact rop_ni | exact rop_add | exact rop_sub | exact rop_mul | exact rop_lt | exact rop_le | exact rop_gt | exact rop_ge | exact rop_mod | exact rop_div | exact rop_isN | exact rop_notN) ?_ | with_reducible refine et_cbO (by first | exact rcl_len | exact rcl_int | exact rcl_sum | exact rcl_max | exact rcl_min | exact rcl_all | exact rcl_any) (by with_unfolding_all rfl) ?_ | with_reducible refine et_cb (by first | exact rcl_len | exact rcl_int | exact rcl_sum | exact rcl_max | exact rcl_min | exact rcl_all | exact rcl_any) ?_ | with_reducible refine et_chain (by first | exact rop_ix | exact rop_eq | exact rop_ne | exact rop_in | exact rop_ni | exact rop_add | exact rop_sub | exact rop_mul | exact rop_lt | exact rop_le | exact rop_gt | exact rop_ge | exact rop_mod | exact rop_div | exact rop_isN | exact rop_notN) (by first | exact rop_ix | exact rop_eq | exact rop_ne | exact rop_in | exact rop_ni | exact rop_add | exact rop_sub | exact rop_mul | exact rop_lt | exact rop_le | exact rop_gt | exact rop_ge | exact rop_mod | exact rop_div | exact rop_isN | exact rop_notN) ?_ | with_reducible refine et_dget2O (by with_unfolding_all rfl) ?_ | with_reducible refine et_dget2 ?_ | with_reducible refine et_call0 nolk ?_ | with_reducible refine et_call0 samelk ?_ | with_reducible refine et_sl ?_) | (with_reducible show Wd _ _ _ _; first | with_reducible refine wd_seq ?_ | with_reducible refine wd_if ?_ | with_reducible refine wd_ret ?_ | with_reducible refine wd_next ?_ | with_reducible refine wd_raise ?_ | with_reducible refine wd_dput ?_ | with_reducible refine wd_app (by with_unfolding_all rfl) ?_ | with_reducible refine wd_retN ?_) | (with_reducible show Ea _ _ _ _; first | with_reducible refine ea_nil ?_ | with_reducible refine ea_cons ?_) | (with_reducible show Eb _ _ _ _; first | with_reducible refine eb_or ?_ | with_reducible refine eb_and ?_ | with_reducible refine eb_not ?_ | with_reducible refine eb_B ?_ | with_reducible refine eb_test ?_ | with_reducible refine eb_yes ?_) | (with_reducible show Eo _ _ _ _; first | with_reducible refine eo_none ?_ | with_reducible refine eo_some ?_) | with_reducible refine isTyI (by first | with_unfolding_all rfl | assumption | exact pur_ok (by assumption)) ?_ | with_reducible refine iteT ?_ | with_reducible refine iteF ?_ | with_reducible refine bt (by first | with_unfolding_all rfl | assumption) ?_ | with_reducible refine bf (by first | with_unfolding_all rfl | assumption) ?_ | with_reducible refine nt (by first | with_unfolding_all rfl | assumption) ?_ | with_reducible refine nf (by first | with_unfolding_all rfl | assumption) ?_ | with_reducible refine fin_s ?_ | with_reducible refine fni_s ?_ | with_reducible refine fx0 (by first | with_unfolding_all rfl | assumption) ?_ | with_reducible refine fx1 (by first | with_unfolding_all rfl | assumption) ?_ | with_reducible refine fx2 (by first | with_unfolding_all rfl | assumption) ?_ | with_reducible refine fxlen (by first | with_unfolding_all rfl | assumption) ?_ | with_reducible refine fxit (by first | with_unfolding_all rfl | assumption) ?_ | with_reducible refine feq_i ?_ | with_reducible refine feq_s ?_ | with_reducible refine fne_i ?_ | with_reducible refine fne_s ?_ | with_reducible refine r1_i (by first | with_unfolding_all rfl | assumption | exact pur_ok (by assumption)) ?_ | with_reducible refine sclI (by with_unfolding_all rfl) ?_ | with_reducible refine lenI (by with_unfolding_all rfl) ?_ | with_reducible refine eI ?_ | with_reducible refine addI ?_ | with_reducible refine jI ?_ | with_reducible refine lenLst ?_ | with_reducible refine lenTup ?_ | with_reducible refine lenDct ?_ | with_reducible refine lenStr ?_ | with_reducible refine slL ?_ | with_reducible refine slT ?_ | with_reducible refine slS ?_ | with_reducible refine intI ?_ | with_reducible refine intB ?_ | with_reducible refine itsL ?_ | with_reducible refine itsT ?_ | with_reducible refine itdL ?_ | with_reducible refine itdT ?_ | with_reducible refine kdI ?_ | with_reducible refine kdS ?_ | with_reducible refine exOwn (by with_unfolding_all rfl) ?_ | with_reducible refine exOwnD (by with_unfolding_all rfl) ?_ | with_reducible refine exOwnL (by with_unfolding_all rfl) ?_))
section
variable {P : Program} {w : World} {K : PySem.W.Frag} {mg : Str → Option Value} {base : Heap}
theorem ok_law (T : Txt P K mg) : FnOk P w K mg base CX0 32 T.a_law T.d_law ["_law_script"] (spLaw K) := by
  refine T.F_law.ok sc_law (fun vs H Q E h => by obtain ⟨a, ns, rfl, _⟩ := h; rfl) (fun cdv A outer s H vs Q E hr h => ⟨_, PSs.nox (pss_cons (ps_set (i := 1) sc_law.nd rfl (Or.inl rfl) (pe_call (ok_fresh T) (hr.mono (by omega)) rfl T.g_fresh T.F_fresh.kp T.b_fresh .nil pass0 (pa_cons (pv 0) pa_nil))) (pss_cons (ps_for PassesOwn.never rfl (pi_range1 rfl T.n_range (pa_cons pe_int pa_nil)) (pg_name (i := 2) sc_law.nd rfl (Or.inl rfl)) (pss_cons (ps_set (i := 3) sc_law.nd rfl (Or.inl rfl) (pe_call (w_drawnM T) (hr.mono (by omega)) rfl T.g_drawn T.F_drawn.kp T.b_drawn .nil pass0 (pa_cons (pv 1) (pa_cons pe_int (pa_cons pe_int (pa_cons pe_bl pa_nil)))))) (pss_cons (ps_par (i := 4) (j := 5) rfl sc_law.nd rfl rfl (by decide) rfl rfl (pa_cons (pe_call (w_net T) (hr.mono (by omega)) rfl T.g_net T.F_net.kp T.b_net .nil pass0 (pa_cons (pv 3) pa_nil)) (pa_cons (pe_joinT (K := K) pe_str (pe_lc (own := [("_law_line", 6)]) (g := gName 6) rfl sc_law.nd (pi_anyK (K := K) (pe_call (w_llines T) (hr.mono (by omega)) rfl T.g_lines T.F_lines.kp T.b_lines .nil pass0 (pa_cons (pv 3) pa_nil))) (blkOk_by (N := ["_law_script", "_law_state", "_law_turn", "_law_net_here", "_law_told", "_law_due", "_law_line"]) (sc := defScope s_law) (by decide +kernel)) (fun _ _ _ _ _ => (pg_name (i := 6) sc_law.nd rfl (Or.inl rfl))) (fun _ _ _ _ _ => pts_nil) (fun _ _ _ _ _ => (pe_op (uAdd K) (pv 6) pe_str)))) pa_nil)) rfl rfl) (pss_one (ps_if (PW.pt (pw_or (pt_not (pt_val (pe_call (w_same T 6) (hr.mono (by omega)) rfl T.g_same T.F_same.kp T.b_same .nil pass0 (pa_cons (pe_meth0 (pv 4) T.l_Net T.m_Net_text (w_net_text T) (hr.mono (by omega)) T.b_Net_text .nil passF) (pa_cons (pv 5) pa_nil))))) (pw_or (pt_cmpR (op_ownN T.q_Net (ok_Net_eq T) T.b_Net_eq pass0 (hr.mono (by omega))) (pe_smeth (pe_glob (v := .ref (T.c_Net)) rfl T.g_Net rfl) T.cr_Net_of_text T.sm_Net_of_text (w_of_text T) (hr.mono (by omega)) T.F_Net_of_text.kp T.b_Net_of_text .nil passF (pa_cons (pv 5) pa_nil)) (pv 4) (nomark _)) (pw_or1 (pt_cmpR (uNe K (hu64 hr)) (pe_meth0 (pe_smeth (pe_glob (v := .ref (T.c_Net)) rfl T.g_Net rfl) T.cr_Net_of_text T.sm_Net_of_text (w_of_text T) (hr.mono (by omega)) T.F_Net_of_text.kp T.b_Net_of_text .nil passF (pa_cons (pv 5) pa_nil)) T.l_Net T.m_Net_text (w_net_text T) (hr.mono (by omega)) T.b_Net_text .nil passF) (pv 5) (nomark _)))))) (pss_one (ps_ret pe_bl)) pss_nil))))) (pss_one (ps_ret pe_bl)))), law_begin h.t 5 rfl ?_⟩)
  refine wd_seq (wd_for (ei_rng1 ?_))
  ac_rfl
  refine ⟨6, rfl, by decide, by decide, fun i e => ∃ s2 s3 s4 s5 : Sl, e = [.no, .v .st, s2, s3, s4, s5, .no], ⟨.no, .no, .no, .no, rfl⟩, ?_, ?_⟩
  · rintro i d e hi ⟨s2, s3, s4, s5, rfl⟩
    refine tg_name (wd_seq (wd_asg ?_))
    ac_rfl
    refine ⟨4, 3, false, rfl, by decide, fun bt ot row D => ?_⟩
    have G := (D.mono (by decide : 3 ≤ 8)).good (by decide)
    have hM := D.txm (by decide) (by decide)
    have hT := hM.toTxT
    have hne : row ≠ [] := fun z => by have := D.len.1; rw [z] at this; simp at this
    show Wd _ [.no, .v .st, .v d, .v (.tup [.dct bt, .dct ot]), s4, s5, .no] _ _
    have dec : ∀ {ys : List Str}, ys.Perm row → sortedS ys = true → ∀ {ys2 : List Str}, ys2.Perm row → sortedS ys2 = true → ys2 = ys := fun {ys} h1 h2 {ys2} h3 h4 => sorted_uniq (h3.nodup_iff.mpr hT.nb) (h1.nodup_iff.mpr hT.nb) h4 h2 fun n => h3.mem_iff.trans h1.mem_iff.symm
    have deo : ∀ {ys : List Str}, ys.Perm (osOf ot) → sortedS ys = true → ∀ {ys2 : List Str}, ys2.Perm (osOf ot) → sortedS ys2 = true → ys2 = ys := fun {ys} h1 h2 {ys2} h3 h4 => sorted_uniq (h3.nodup_iff.mpr hT.no) (h1.nodup_iff.mpr hT.no) h4 h2 fun n => h3.mem_iff.trans h1.mem_iff.symm
    refine wd_seq (wd_par (et_call0 samelk (ea_cons (et_var rfl (ea_nil ⟨_, _, _, rfl, rfl, rn_good G fun found hO hall => ?_⟩)))))
    refine et_join (et_str ⟨_, rfl, Ef.et (ef_mapY (fun d => match d with | .str l => .str (l ++ Str.ofString "\n") | x => x) (ei_seq (et_call0 samelk (ea_cons (et_var rfl (ea_nil ⟨bt, ot, row, osOf ot, rfl, hT, fun ys zs hy hs hz hs2 => itsL ?_⟩))))))⟩)
    obtain ⟨t1, t2⟩ := hT.tl hy hz
    obtain ⟨x1, x2⟩ := hT.tx hy hz
    refine ⟨nown_no rfl, fun d hd => ?_, (txL bt ot ys zs).map fun l => l ++ Str.ofString "\n", .inl (by rw [List.map_map, List.map_map]; rfl), by rw [emS]; omega, by show (txN bt ot ys zs).length ≤ Zz; simp only [Zz]; omega, ?_⟩
    · obtain ⟨l, hl, rfl⟩ := List.mem_map.mp hd
      have := t1 l hl
      exact et_op rop_add (et_var rfl (et_str ⟨by rw [nlS]; simp only [Zz]; omega, rfl, rfl⟩))
    show Wd _ [.no, .v .st, .v d, .v (.tup [.dct bt, .dct ot]), .v (netD T bt ot found), .v (.str (txN bt ot ys zs)), .no] _ _
    obtain ⟨r1, r2⟩ := OfT_txN hT hy hz hs hs2 hne
    have rof : ∀ {Pd : Dt → Prop} {xe : Addr → List (Str × Dt) → Prop}, (∀ found, Pd (netD T (srD bt ys) (srD ot zs) found)) → ROf T [.str (txN bt ot ys zs)] Pd xe := fun {Pd xe} q => by
      refine ⟨_, rfl, by omega, fun l hl u hu => ?_, ?_⟩
      · rw [r1] at hl
        rcases List.mem_append.mp hl with hl | hl
        · have := hM.c40 hy hz l hl u hu
          omega
        · rw [List.mem_singleton.mp hl] at hu
          have e : wds (Str.ofString "") = [Str.ofString ""] := by
            have eS : wds (Str.ofString "") = (spl [32] 0 [] (tl (Str.ofString ""))).map mkS := split1_eq (by decide +kernel) (by decide +kernel)
            rw [eS]
            decide +kernel
          rw [e] at hu
          rw [List.mem_singleton.mp hu]
          decide +kernel
      · rw [r2]
        exact rn_good (G.perm hy hz) fun found _ _ => q found
    have hTp := hT.perm hy hz
    have etx := hT.same hy hz
    refine wd_if (eb_or (eb_not (eb_B (et_call0 nolk (ea_cons (et_meth0 nolk (et_var rfl ⟨_, rfl, rfl, ea_nil ⟨bt, ot, found, row, osOf ot, rfl, hT, fun ys2 zs2 a1 a2 a3 a4 => ?_⟩⟩)))))))
    rw [dec hy hs a1 a2, deo hz hs2 a3 a4]
    refine ea_cons (et_var rfl (ea_nil ⟨_, rfl, hT.sok hy hz, Wv.nt rfl ?_⟩))
    refine eb_or (eb_test (et_own2 nolk (et_call0 samelk (ea_cons (et_var rfl (ea_nil (rof fun found2 => ?_)))))))
    refine et_var rfl ⟨_, _, rfl, rfl, _, _, _, _, _, _, rfl, ⟨(G.perm hy hz).toGB.cmp.1, ((G.perm hy hz).go.cmp (G.perm hy hz).toGB.wd).1, G.toGB.cmp.1, (G.go.cmp G.toGB.wd).1⟩, true, ?_, ?_⟩
    · rw [eqK_perm G.toGB.ks G.toGB.nd hy fun kv hkv => ((G.toGB.bx kv hkv).dep G.toGB.wd).1, eqK_perm G.go.ks G.go.nd hz fun kv hkv => ?_]
      · rfl
      · obtain ⟨x, e, h1, h2⟩ := G.go.ow kv hkv
        rw [e]
        exact wD_dat (word_ok (G.toGB.wd _ h1)).1 h2
    refine Wv.bf rfl (eb_test (et_op rop_ne (et_meth0 nolk (et_call0 samelk (ea_cons (et_var rfl (ea_nil (rof fun found3 => ?_))))))))
    refine ⟨_, rfl, rfl, ea_nil ⟨srD bt ys, srD ot zs, found3, ys, zs, rfl, hTp, fun ys2 zs2 a1 a2 a3 a4 => ?_⟩⟩
    rw [dec hy hs (a1.trans hy) a2, deo hz hs2 (a3.trans hz) a4, etx]
    exact et_var rfl (fne_s (Wv.bf (by simp) (wd_next ⟨_, _, _, _, rfl⟩)))
  · rintro e ⟨s2, s3, s4, s5, rfl⟩
    exact wd_ret (et_bl rfl)
end
end Lw
namespace Lw
open PySem PySem.Spec PyProof.Rows L2
theorem all_at {l : List Bool} (h : l.all id = true) (i : Nat) {b : Bool} (e : l[i]? = some b) : b = true := List.all_eq_true.mp h b (List.mem_of_getElem? e)
theorem facts {w : World} {K : PySem.W.Frag} {h : Heap} {mg : Str → Option Value} {f : Addr} (X : K.In h) (G : h.Ns mainGlobals mg) (hfa : mg ("law" : Str) = some (.ref f)) (c : obsX fa fn xb xs K = valX fn vs) :
    ∃ fd : FuncData, (∀ (s : Shared) (v : Value), BindsTo s fd ⟨[v], []⟩ [("_law_script", v)]) ∧ ∀ base : Heap, K.In base → base.Ns mainGlobals mg → FnOk PR w K mg base CX0 32 f fd ["_law_script"] (spLaw K) := by
  have c1 : He.SaysD fa fn K := congrArg (fun z : AlX => z.1) c
  have c2 : xb K = true := congrArg (fun z : AlX => z.2.1) c
  have c3 : (xs.map fun x => exAt K (exAd K x)) = vs := congrArg (fun z : AlX => z.2.2) c
  obtain ⟨b1, b2⟩ := He.ba c2
  obtain ⟨b2, c2x⟩ := He.ba b2
  obtain ⟨n1, n2⟩ := He.ba b2
  obtain ⟨n2, n3⟩ := He.ba n2
  have ex : ∀ (i : Nat) (e v : ExV), (xs.map fun x => exAt K (exAd K x))[i]? = some e → vs[i]? = some v → e = v := fun i e v h1 h2 => by
    rw [c3, h2] at h1
    exact (Option.some.inj h1).symm
  obtain ⟨st1, c2x⟩ := He.ba c2x
  have o1 := c2x
  obtain ⟨d0, F0⟩ := c1.def_ 0 rfl
  obtain ⟨d1, F1⟩ := c1.def_ 1 rfl
  obtain ⟨d2, F2⟩ := c1.def_ 2 rfl
  obtain ⟨d3, F3⟩ := c1.def_ 3 rfl
  obtain ⟨d4, F4⟩ := c1.def_ 4 rfl
  obtain ⟨d5, F5⟩ := c1.def_ 5 rfl
  obtain ⟨d6, F6⟩ := c1.def_ 6 rfl
  obtain ⟨d7, F7⟩ := c1.def_ 7 rfl
  obtain ⟨d8, F8⟩ := c1.def_ 8 rfl
  obtain ⟨d9, F9⟩ := c1.def_ 9 rfl
  obtain ⟨d10, F10⟩ := c1.def_ 10 rfl
  obtain ⟨d11, F11⟩ := c1.def_ 11 rfl
  obtain ⟨d12, F12⟩ := c1.def_ 12 rfl
  obtain ⟨d13, F13⟩ := c1.def_ 13 rfl
  obtain ⟨d14, F14⟩ := c1.def_ 14 rfl
  obtain ⟨d15, F15⟩ := c1.def_ 15 rfl
  obtain ⟨d16, F16⟩ := c1.def_ 16 rfl
  obtain ⟨d17, F17⟩ := c1.def_ 17 rfl
  obtain ⟨d18, F18⟩ := c1.def_ 18 rfl
  obtain ⟨d19, F19⟩ := c1.def_ 19 rfl
  obtain ⟨d20, F20⟩ := c1.def_ 20 rfl
  obtain ⟨d21, F21⟩ := c1.def_ 21 rfl
  obtain ⟨d22, F22⟩ := c1.def_ 22 rfl
  obtain ⟨d23, F23⟩ := c1.def_ 23 rfl
  obtain ⟨d24, F24⟩ := c1.def_ 24 rfl
  obtain ⟨d25, F25⟩ := c1.def_ 25 rfl
  obtain ⟨d26, F26⟩ := c1.def_ 26 rfl
  obtain ⟨d27, F27⟩ := c1.def_ 27 rfl
  obtain ⟨d28, F28⟩ := c1.def_ 28 rfl
  obtain ⟨d29, F29⟩ := c1.def_ 29 rfl
  obtain ⟨d30, F30⟩ := c1.def_ 30 rfl
  obtain ⟨d31, F31⟩ := c1.def_ 31 rfl
  obtain ⟨d32, F32⟩ := c1.def_ 32 rfl
  obtain ⟨d33, F33⟩ := c1.def_ 33 rfl
  obtain ⟨d34, F34⟩ := c1.def_ 34 rfl
  obtain ⟨d35, F35⟩ := c1.def_ 35 rfl
  obtain ⟨d36, F36⟩ := c1.def_ 36 rfl
  obtain ⟨d37, F37⟩ := c1.def_ 37 rfl
  obtain ⟨d38, F38⟩ := c1.def_ 38 rfl
  obtain ⟨d39, F39⟩ := c1.def_ 39 rfl
  obtain ⟨d40, F40⟩ := c1.def_ 40 rfl
  obtain ⟨d41, F41⟩ := c1.def_ 41 rfl
  obtain ⟨d42, F42⟩ := c1.def_ 42 rfl
  obtain ⟨d43, F43⟩ := c1.def_ 43 rfl
  obtain ⟨d44, F44⟩ := c1.def_ 44 rfl
  obtain ⟨d45, F45⟩ := c1.def_ 45 rfl
  obtain ⟨d46, F46⟩ := c1.def_ 46 rfl
  obtain ⟨d47, F47⟩ := c1.def_ 47 rfl
  obtain ⟨d48, F48⟩ := c1.def_ 48 rfl
  obtain ⟨d49, F49⟩ := c1.def_ 49 rfl
  obtain ⟨d50, F50⟩ := c1.def_ 50 rfl
  obtain ⟨d51, F51⟩ := c1.def_ 51 rfl
  obtain ⟨d52, F52⟩ := c1.def_ 52 rfl
  obtain ⟨d53, F53⟩ := c1.def_ 53 rfl
  obtain ⟨d54, F54⟩ := c1.def_ 54 rfl
  obtain ⟨d55, F55⟩ := c1.def_ 55 rfl
  obtain ⟨d56, F56⟩ := c1.def_ 56 rfl
  obtain ⟨d57, F57⟩ := c1.def_ 57 rfl
  obtain ⟨d58, F58⟩ := c1.def_ 58 rfl
  obtain ⟨d59, F59⟩ := c1.def_ 59 rfl
  obtain ⟨d60, F60⟩ := c1.def_ 60 rfl
  obtain ⟨d61, F61⟩ := c1.def_ 61 rfl
  obtain ⟨⟨ds0, Fs0⟩, sms0, crs0⟩ := stB_ok (st := s_Net_of_text) st1 ((congrArg (exAt K) (ad_st (K := K) (x := "Net.of_text") (c := "Net") (m := "of_text") (by decide +kernel))).symm.trans (ex 8 _ _ rfl rfl))
  let T : Txt PR K mg := {
    c_NetError := He.ga K "NetError",
    g_NetError := He.glo_ok X G (c1.fact 40 rfl),
    c_BadBoxes := He.ga K "BadBoxes",
    g_BadBoxes := He.glo_ok X G (c1.fact 41 rfl),
    c_BadBox := He.ga K "BadBox",
    g_BadBox := He.glo_ok X G (c1.fact 42 rfl),
    c_BadOutputs := He.ga K "BadOutputs",
    g_BadOutputs := He.glo_ok X G (c1.fact 43 rfl),
    c_BadOutput := He.ga K "BadOutput",
    g_BadOutput := He.glo_ok X G (c1.fact 44 rfl),
    c_Ring := He.ga K "Ring",
    g_Ring := He.glo_ok X G (c1.fact 45 rfl),
    c_BadTime := He.ga K "BadTime",
    g_BadTime := He.glo_ok X G (c1.fact 46 rfl),
    c_TooLong := He.ga K "TooLong",
    g_TooLong := He.glo_ok X G (c1.fact 47 rfl),
    c_BadText := He.ga K "BadText",
    g_BadText := He.glo_ok X G (c1.fact 48 rfl),
    c_Table := He.ga K "Table",
    g_Table := He.glo_ok X G (c1.fact 49 rfl),
    c_Net := He.ga K "Net",
    g_Net := He.glo_ok X G (c1.fact 50 rfl),
    c_Values := He.ga K "Values",
    g_Values := He.glo_ok X G (c1.fact 51 rfl),
    a__wall := He.fAd K ("_wall", none),
    d__wall := d0,
    F__wall := F0,
    b__wall := F0.bindsN fun _ _ _ _ _ _ us hl => match us, hl with | [_], _ => rfl,
    g__wall := He.glo_ok X G (c1.fact 0 rfl),
    a_is_integer := He.fAd K ("is_integer", none),
    d_is_integer := d1,
    F_is_integer := F1,
    b_is_integer := F1.bindsN fun _ _ _ _ _ _ us hl => match us, hl with | [_], _ => rfl,
    g_is_integer := He.glo_ok X G (c1.fact 1 rfl),
    a_is_list := He.fAd K ("is_list", none),
    d_is_list := d2,
    F_is_list := F2,
    b_is_list := F2.bindsN fun _ _ _ _ _ _ us hl => match us, hl with | [_], _ => rfl,
    g_is_list := He.glo_ok X G (c1.fact 2 rfl),
    a_is_word := He.fAd K ("is_word", none),
    d_is_word := d3,
    F_is_word := F3,
    b_is_word := F3.bindsN fun _ _ _ _ _ _ us hl => match us, hl with | [_], _ => rfl,
    g_is_word := He.glo_ok X G (c1.fact 3 rfl),
    a_is_ground := He.fAd K ("is_ground", none),
    d_is_ground := d4,
    F_is_ground := F4,
    b_is_ground := F4.bindsN fun _ _ _ _ _ _ us hl => match us, hl with | [_], _ => rfl,
    g_is_ground := He.glo_ok X G (c1.fact 4 rfl),
    a_as_term := He.fAd K ("as_term", none),
    d_as_term := d5,
    F_as_term := F5,
    b_as_term := F5.bindsN fun _ _ _ _ _ _ us hl => match us, hl with | [_], _ => rfl,
    g_as_term := He.glo_ok X G (c1.fact 5 rfl),
    a_term_text := He.fAd K ("term_text", none),
    d_term_text := d6,
    F_term_text := F6,
    b_term_text := F6.bindsN fun _ _ _ _ _ _ us hl => match us, hl with | [_], _ => rfl,
    g_term_text := He.glo_ok X G (c1.fact 6 rfl),
    a_Table_init := He.fAd K ("Table", some "__init__"),
    d_Table_init := d7,
    F_Table_init := F7,
    b_Table_init := F7.bindsN fun _ _ _ _ _ _ us hl => match us, hl with | [_], _ => rfl,
    m_Table_init := He.meth_ok (c1.fact 86 rfl),
    a_Table_number := He.fAd K ("Table", some "number"),
    d_Table_number := d8,
    F_Table_number := F8,
    b_Table_number := F8.bindsN fun _ _ _ _ _ _ us hl => match us, hl with | [_, _], _ => rfl,
    m_Table_number := He.meth_ok (c1.fact 87 rfl),
    a_Table_ground := He.fAd K ("Table", some "ground"),
    d_Table_ground := d9,
    F_Table_ground := F9,
    b_Table_ground := F9.bindsN fun _ _ _ _ _ _ us hl => match us, hl with | [_, _], _ => rfl,
    m_Table_ground := He.meth_ok (c1.fact 88 rfl),
    a_Table_term := He.fAd K ("Table", some "term"),
    d_Table_term := d10,
    F_Table_term := F10,
    b_Table_term := F10.bindsN fun _ _ _ _ _ _ us hl => match us, hl with | [_, _], _ => rfl,
    m_Table_term := He.meth_ok (c1.fact 89 rfl),
    a_read_term := He.fAd K ("read_term", none),
    d_read_term := d11,
    F_read_term := F11,
    b_read_term := F11.bindsN fun _ _ _ _ _ _ us hl => match us, hl with | [_], _ => rfl,
    g_read_term := He.glo_ok X G (c1.fact 7 rfl),
    a_read_part := He.fAd K ("read_part", none),
    d_read_part := d12,
    F_read_part := F12,
    b_read_part := F12.bindsN fun _ _ _ _ _ _ us hl => match us, hl with | [_], _ => rfl,
    g_read_part := He.glo_ok X G (c1.fact 8 rfl),
    a_is_wire := He.fAd K ("is_wire", none),
    d_is_wire := d13,
    F_is_wire := F13,
    b_is_wire := F13.bindsN fun _ _ _ _ _ _ us hl => match us, hl with | [_, _], _ => rfl,
    g_is_wire := He.glo_ok X G (c1.fact 9 rfl),
    a_as_wire := He.fAd K ("as_wire", none),
    d_as_wire := d14,
    F_as_wire := F14,
    b_as_wire := F14.bindsN fun _ _ _ _ _ _ us hl => match us, hl with | [_], _ => rfl,
    g_as_wire := He.glo_ok X G (c1.fact 10 rfl),
    a_is_box := He.fAd K ("is_box", none),
    d_is_box := d15,
    F_is_box := F15,
    b_is_box := F15.bindsN fun _ _ _ _ _ _ us hl => match us, hl with | [_, _, _], _ => rfl,
    g_is_box := He.glo_ok X G (c1.fact 11 rfl),
    a_as_box := He.fAd K ("as_box", none),
    d_as_box := d16,
    F_as_box := F16,
    b_as_box := F16.bindsN fun _ _ _ _ _ _ us hl => match us, hl with | [_], _ => rfl,
    g_as_box := He.glo_ok X G (c1.fact 12 rfl),
    a_copied_box := He.fAd K ("copied_box", none),
    d_copied_box := d17,
    F_copied_box := F17,
    b_copied_box := F17.bindsN fun _ _ _ _ _ _ us hl => match us, hl with | [_], _ => rfl,
    g_copied_box := He.glo_ok X G (c1.fact 13 rfl),
    a_copied_wire := He.fAd K ("copied_wire", none),
    d_copied_wire := d18,
    F_copied_wire := F18,
    b_copied_wire := F18.bindsN fun _ _ _ _ _ _ us hl => match us, hl with | [_], _ => rfl,
    g_copied_wire := He.glo_ok X G (c1.fact 14 rfl),
    a_wires_of_box := He.fAd K ("wires_of_box", none),
    d_wires_of_box := d19,
    F_wires_of_box := F19,
    b_wires_of_box := F19.bindsN fun _ _ _ _ _ _ us hl => match us, hl with | [_], _ => rfl,
    g_wires_of_box := He.glo_ok X G (c1.fact 15 rfl),
    a_checked_boxes := He.fAd K ("checked_boxes", none),
    d_checked_boxes := d20,
    F_checked_boxes := F20,
    b_checked_boxes := F20.bindsN fun _ _ _ _ _ _ us hl => match us, hl with | [_], _ => rfl,
    g_checked_boxes := He.glo_ok X G (c1.fact 16 rfl),
    a_checked_outputs := He.fAd K ("checked_outputs", none),
    d_checked_outputs := d21,
    F_checked_outputs := F21,
    b_checked_outputs := F21.bindsN fun _ _ _ _ _ _ us hl => match us, hl with | [_, _], _ => rfl,
    g_checked_outputs := He.glo_ok X G (c1.fact 17 rfl),
    a_order_of := He.fAd K ("order_of", none),
    d_order_of := d22,
    F_order_of := F22,
    b_order_of := F22.bindsN fun _ _ _ _ _ _ us hl => match us, hl with | [_], _ => rfl,
    g_order_of := He.glo_ok X G (c1.fact 18 rfl),
    a_reached := He.fAd K ("reached", none),
    d_reached := d23,
    F_reached := F23,
    b_reached := F23.bindsN fun _ _ _ _ _ _ us hl => match us, hl with | [_, _, _], _ => rfl,
    g_reached := He.glo_ok X G (c1.fact 19 rfl),
    a_Net_init := He.fAd K ("Net", some "__init__"),
    d_Net_init := d24,
    F_Net_init := F24,
    b_Net_init := F24.bindsN fun _ _ _ _ _ _ us hl => match us, hl with | [_, _, _], _ => rfl,
    m_Net_init := He.meth_ok (c1.fact 90 rfl),
    a_Net_eq := He.fAd K ("Net", some "__eq__"),
    d_Net_eq := d25,
    F_Net_eq := F25,
    b_Net_eq := F25.bindsN fun _ _ _ _ _ _ us hl => match us, hl with | [_, _], _ => rfl,
    m_Net_eq := He.meth_ok (c1.fact 91 rfl),
    a_Net_boxes := He.fAd K ("Net", some "boxes"),
    d_Net_boxes := d26,
    F_Net_boxes := F26,
    b_Net_boxes := F26.bindsN fun _ _ _ _ _ _ us hl => match us, hl with | [_], _ => rfl,
    m_Net_boxes := He.meth_ok (c1.fact 92 rfl),
    a_Net_outputs := He.fAd K ("Net", some "outputs"),
    d_Net_outputs := d27,
    F_Net_outputs := F27,
    b_Net_outputs := F27.bindsN fun _ _ _ _ _ _ us hl => match us, hl with | [_], _ => rfl,
    m_Net_outputs := He.meth_ok (c1.fact 93 rfl),
    a_Net_counting := He.fAd K ("Net", some "counting"),
    d_Net_counting := d28,
    F_Net_counting := F28,
    b_Net_counting := F28.bindsN fun _ _ _ _ _ _ us hl => match us, hl with | [_], _ => rfl,
    m_Net_counting := He.meth_ok (c1.fact 94 rfl),
    a_Net_is_plain := He.fAd K ("Net", some "is_plain"),
    d_Net_is_plain := d29,
    F_Net_is_plain := F29,
    b_Net_is_plain := F29.bindsN fun _ _ _ _ _ _ us hl => match us, hl with | [_], _ => rfl,
    m_Net_is_plain := He.meth_ok (c1.fact 95 rfl),
    a_Net_ahead := He.fAd K ("Net", some "ahead"),
    d_Net_ahead := d30,
    F_Net_ahead := F30,
    b_Net_ahead := F30.bindsN fun _ _ _ _ _ _ us hl => match us, hl with | [_], _ => rfl,
    m_Net_ahead := He.meth_ok (c1.fact 96 rfl),
    a_Net_term := He.fAd K ("Net", some "term"),
    d_Net_term := d31,
    F_Net_term := F31,
    b_Net_term := F31.bindsN fun _ _ _ _ _ _ us hl => match us, hl with | [_, _, _], _ => rfl,
    m_Net_term := He.meth_ok (c1.fact 97 rfl),
    a_Net_shown := He.fAd K ("Net", some "shown"),
    d_Net_shown := d32,
    F_Net_shown := F32,
    b_Net_shown := F32.bindsN fun _ _ _ _ _ _ us hl => match us, hl with | [_, _, _], _ => rfl,
    m_Net_shown := He.meth_ok (c1.fact 98 rfl),
    a_Net_told_term := He.fAd K ("Net", some "told_term"),
    d_Net_told_term := d33,
    F_Net_told_term := F33,
    b_Net_told_term := F33.bindsN fun _ _ _ _ _ _ us hl => match us, hl with | [_, _, _], _ => rfl,
    m_Net_told_term := He.meth_ok (c1.fact 99 rfl),
    a_Net_played := He.fAd K ("Net", some "played"),
    d_Net_played := d34,
    F_Net_played := F34,
    b_Net_played := F34.bindsN fun _ _ _ _ _ _ us hl => match us, hl with | [_, _, _], _ => rfl,
    m_Net_played := He.meth_ok (c1.fact 100 rfl),
    a_Net_text := He.fAd K ("Net", some "text"),
    d_Net_text := d35,
    F_Net_text := F35,
    b_Net_text := F35.bindsN fun _ _ _ _ _ _ us hl => match us, hl with | [_], _ => rfl,
    m_Net_text := He.meth_ok (c1.fact 101 rfl),
    a_checked_time := He.fAd K ("checked_time", none),
    d_checked_time := d36,
    F_checked_time := F36,
    b_checked_time := F36.bindsN fun _ _ _ _ _ _ us hl => match us, hl with | [_], _ => rfl,
    g_checked_time := He.glo_ok X G (c1.fact 20 rfl),
    a_Values_init := He.fAd K ("Values", some "__init__"),
    d_Values_init := d37,
    F_Values_init := F37,
    b_Values_init := F37.bindsN fun _ _ _ _ _ _ us hl => match us, hl with | [_, _, _], _ => rfl,
    m_Values_init := He.meth_ok (c1.fact 102 rfl),
    a_Values_start_number := He.fAd K ("Values", some "start_number"),
    d_Values_start_number := d38,
    F_Values_start_number := F38,
    b_Values_start_number := F38.bindsN fun _ _ _ _ _ _ us hl => match us, hl with | [_, _], _ => rfl,
    m_Values_start_number := He.meth_ok (c1.fact 103 rfl),
    a_Values_came := He.fAd K ("Values", some "came"),
    d_Values_came := d39,
    F_Values_came := F39,
    b_Values_came := F39.bindsN fun _ _ _ _ _ _ us hl => match us, hl with | [_, _, _], _ => rfl,
    m_Values_came := He.meth_ok (c1.fact 104 rfl),
    a_Values_given := He.fAd K ("Values", some "given"),
    d_Values_given := d40,
    F_Values_given := F40,
    b_Values_given := F40.bindsN fun _ _ _ _ _ _ us hl => match us, hl with | [_, _, _], _ => rfl,
    m_Values_given := He.meth_ok (c1.fact 105 rfl),
    a_Values_adds_row := He.fAd K ("Values", some "adds_row"),
    d_Values_adds_row := d41,
    F_Values_adds_row := F41,
    b_Values_adds_row := F41.bindsN fun _ _ _ _ _ _ us hl => match us, hl with | [_], _ => rfl,
    m_Values_adds_row := He.meth_ok (c1.fact 106 rfl),
    a_Values_given_now := He.fAd K ("Values", some "given_now"),
    d_Values_given_now := d42,
    F_Values_given_now := F42,
    b_Values_given_now := F42.bindsN fun _ _ _ _ _ _ us hl => match us, hl with | [_, _, _, _], _ => rfl,
    m_Values_given_now := He.meth_ok (c1.fact 107 rfl),
    a_wire_text := He.fAd K ("wire_text", none),
    d_wire_text := d43,
    F_wire_text := F43,
    b_wire_text := F43.bindsN fun _ _ _ _ _ _ us hl => match us, hl with | [_], _ => rfl,
    g_wire_text := He.glo_ok X G (c1.fact 21 rfl),
    a_read_wire := He.fAd K ("read_wire", none),
    d_read_wire := d44,
    F_read_wire := F44,
    b_read_wire := F44.bindsN fun _ _ _ _ _ _ us hl => match us, hl with | [_], _ => rfl,
    g_read_wire := He.glo_ok X G (c1.fact 22 rfl),
    a_takes_line := He.fAd K ("takes_line", none),
    d_takes_line := d45,
    F_takes_line := F45,
    b_takes_line := F45.bindsN fun _ _ _ _ _ _ us hl => match us, hl with | [_, _, _], _ => rfl,
    g_takes_line := He.glo_ok X G (c1.fact 23 rfl),
    a_fresh := He.fAd K ("_law_fresh", none),
    d_fresh := d46,
    F_fresh := F46,
    b_fresh := F46.bindsN fun _ _ _ _ _ _ us hl => match us, hl with | [_], _ => rfl,
    g_fresh := He.glo_ok X G (c1.fact 24 rfl),
    a_fill := He.fAd K ("_law_fill", none),
    d_fill := d47,
    F_fill := F47,
    b_fill := F47.bindsN fun _ _ _ _ _ _ us hl => match us, hl with | [_], _ => rfl,
    g_fill := He.glo_ok X G (c1.fact 25 rfl),
    a_take := He.fAd K ("_law_take", none),
    d_take := d48,
    F_take := F48,
    b_take := F48.bindsN fun _ _ _ _ _ _ us hl => match us, hl with | [_, _], _ => rfl,
    g_take := He.glo_ok X G (c1.fact 26 rfl),
    a_one := He.fAd K ("_law_one", none),
    d_one := d49,
    F_one := F49,
    b_one := F49.bindsN fun _ _ _ _ _ _ us hl => match us, hl with | [_, _], _ => rfl,
    g_one := He.glo_ok X G (c1.fact 27 rfl),
    a_mix := He.fAd K ("_law_mix", none),
    d_mix := d50,
    F_mix := F50,
    b_mix := F50.bindsN fun _ _ _ _ _ _ us hl => match us, hl with | [_, _], _ => rfl,
    g_mix := He.glo_ok X G (c1.fact 28 rfl),
    a_same := He.fAd K ("_law_same", none),
    d_same := d51,
    F_same := F51,
    b_same := F51.bindsN fun _ _ _ _ _ _ us hl => match us, hl with | [_, _], _ => rfl,
    g_same := He.glo_ok X G (c1.fact 29 rfl),
    a_arity := He.fAd K ("_law_arity", none),
    d_arity := d52,
    F_arity := F52,
    b_arity := F52.bindsN fun _ _ _ _ _ _ us hl => match us, hl with | [_], _ => rfl,
    g_arity := He.glo_ok X G (c1.fact 30 rfl),
    a_starts := He.fAd K ("_law_starts", none),
    d_starts := d53,
    F_starts := F53,
    b_starts := F53.bindsN fun _ _ _ _ _ _ us hl => match us, hl with | [_, _, _], _ => rfl,
    g_starts := He.glo_ok X G (c1.fact 31 rfl),
    a_names := He.fAd K ("_law_names", none),
    d_names := d54,
    F_names := F54,
    b_names := F54.bindsN fun _ _ _ _ _ _ us hl => match us, hl with | [_, _], _ => rfl,
    g_names := He.glo_ok X G (c1.fact 32 rfl),
    a_drawn := He.fAd K ("_law_drawn", none),
    d_drawn := d55,
    F_drawn := F55,
    b_drawn := F55.bindsN fun _ _ _ _ _ _ us hl => match us, hl with | [_, _, _, _], _ => rfl,
    g_drawn := He.glo_ok X G (c1.fact 33 rfl),
    a_wires := He.fAd K ("_law_wires", none),
    d_wires := d56,
    F_wires := F56,
    b_wires := F56.bindsN fun _ _ _ _ _ _ us hl => match us, hl with | [_], _ => rfl,
    g_wires := He.glo_ok X G (c1.fact 34 rfl),
    a_net := He.fAd K ("_law_net", none),
    d_net := d57,
    F_net := F57,
    b_net := F57.bindsN fun _ _ _ _ _ _ us hl => match us, hl with | [_], _ => rfl,
    g_net := He.glo_ok X G (c1.fact 35 rfl),
    a_l_term_text := He.fAd K ("_law_term_text", none),
    d_l_term_text := d58,
    F_l_term_text := F58,
    b_l_term_text := F58.bindsN fun _ _ _ _ _ _ us hl => match us, hl with | [_], _ => rfl,
    g_l_term_text := He.glo_ok X G (c1.fact 36 rfl),
    a_l_wire_text := He.fAd K ("_law_wire_text", none),
    d_l_wire_text := d59,
    F_l_wire_text := F59,
    b_l_wire_text := F59.bindsN fun _ _ _ _ _ _ us hl => match us, hl with | [_], _ => rfl,
    g_l_wire_text := He.glo_ok X G (c1.fact 37 rfl),
    a_lines := He.fAd K ("_law_lines", none),
    d_lines := d60,
    F_lines := F60,
    b_lines := F60.bindsN fun _ _ _ _ _ _ us hl => match us, hl with | [_], _ => rfl,
    g_lines := He.glo_ok X G (c1.fact 38 rfl),
    a_law := He.fAd K ("law", none),
    d_law := d61,
    F_law := F61,
    b_law := F61.bindsN fun _ _ _ _ _ _ us hl => match us, hl with | [_], _ => rfl,
    a_Net_of_text := He5.wf K (He.ga K "Net") "staticmethod" "of_text",
    d_Net_of_text := ds0,
    F_Net_of_text := Fs0,
    b_Net_of_text := Fs0.bindsN fun _ _ _ _ _ _ us hl => match us, hl with | [_], _ => rfl,
    p_Net_of_text := He.ma K (He.ga K "Net") "of_text",
    sm_Net_of_text := sms0,
    cr_Net_of_text := crs0,
    l_Table := He.cls_ok (c1.fact 70 rfl),
    i_Table := ownIB_ok (all_at o1 0 rfl),
    k_Table := He.mkr_ok (c1.fact 71 rfl),
    o_Table_numbers := He.noat_ok (c1.fact 72 rfl),
    o_Table_key_rows := He.noat_ok (c1.fact 73 rfl),
    o_Table_sizes := He.noat_ok (c1.fact 74 rfl),
    o_Table_latest := He.noat_ok (c1.fact 75 rfl),
    l_Net := He.cls_ok (c1.fact 76 rfl),
    i_Net := ownIB_ok (all_at o1 1 rfl),
    q_Net := ownCB_ok (all_at o1 2 rfl),
    k_Net := He.mkr_ok (c1.fact 77 rfl),
    o_Net_box_table := He.noat_ok (c1.fact 78 rfl),
    o_Net_output_table := He.noat_ok (c1.fact 79 rfl),
    o_Net_order := He.noat_ok (c1.fact 80 rfl),
    l_Values := He.cls_ok (c1.fact 81 rfl),
    i_Values := ownIB_ok (all_at o1 3 rfl),
    k_Values := He.mkr_ok (c1.fact 82 rfl),
    o_Values_net := He.noat_ok (c1.fact 83 rfl),
    o_Values_table := He.noat_ok (c1.fact 84 rfl),
    o_Values_rows := He.noat_ok (c1.fact 85 rfl),
    e_NetError := (excB_ok n3).1,
    x_NetError := n1,
    k_NetError := n2,
    e_BadBoxes := (excB_ok (He.ba (all_at b1 0 rfl)).2).1,
    f_BadBoxes := He.ma K (He.ga K "BadBoxes") "__init__",
    X_BadBoxes := xB_ok (st := inClass (top 3) 0) (He.ba (all_at b1 0 rfl)).1 ((congrArg (exAt K) (ad_init (K := K) (x := "BadBoxes") (by decide +kernel))).symm.trans (ex 0 _ _ rfl rfl)) y_thing (by decide +kernel) rfl rfl rfl rfl,
    y_BadBoxes := (excB_ok (He.ba (all_at b1 0 rfl)).2).2,
    e_BadBox := (excB_ok (He.ba (all_at b1 1 rfl)).2).1,
    f_BadBox := He.ma K (He.ga K "BadBox") "__init__",
    X_BadBox := xB_ok (st := inClass (top 4) 0) (He.ba (all_at b1 1 rfl)).1 ((congrArg (exAt K) (ad_init (K := K) (x := "BadBox") (by decide +kernel))).symm.trans (ex 1 _ _ rfl rfl)) y_name (by decide +kernel) rfl rfl rfl rfl,
    y_BadBox := (excB_ok (He.ba (all_at b1 1 rfl)).2).2,
    e_BadOutputs := (excB_ok (He.ba (all_at b1 2 rfl)).2).1,
    f_BadOutputs := He.ma K (He.ga K "BadOutputs") "__init__",
    X_BadOutputs := xB_ok (st := inClass (top 5) 0) (He.ba (all_at b1 2 rfl)).1 ((congrArg (exAt K) (ad_init (K := K) (x := "BadOutputs") (by decide +kernel))).symm.trans (ex 2 _ _ rfl rfl)) y_thing (by decide +kernel) rfl rfl rfl rfl,
    y_BadOutputs := (excB_ok (He.ba (all_at b1 2 rfl)).2).2,
    e_BadOutput := (excB_ok (He.ba (all_at b1 3 rfl)).2).1,
    f_BadOutput := He.ma K (He.ga K "BadOutput") "__init__",
    X_BadOutput := xB_ok (st := inClass (top 6) 0) (He.ba (all_at b1 3 rfl)).1 ((congrArg (exAt K) (ad_init (K := K) (x := "BadOutput") (by decide +kernel))).symm.trans (ex 3 _ _ rfl rfl)) y_name (by decide +kernel) rfl rfl rfl rfl,
    y_BadOutput := (excB_ok (He.ba (all_at b1 3 rfl)).2).2,
    e_Ring := (excB_ok (He.ba (all_at b1 4 rfl)).2).1,
    f_Ring := He.ma K (He.ga K "Ring") "__init__",
    X_Ring := xB_ok (st := inClass (top 7) 0) (He.ba (all_at b1 4 rfl)).1 ((congrArg (exAt K) (ad_init (K := K) (x := "Ring") (by decide +kernel))).symm.trans (ex 4 _ _ rfl rfl)) y_name (by decide +kernel) rfl rfl rfl rfl,
    y_Ring := (excB_ok (He.ba (all_at b1 4 rfl)).2).2,
    e_BadTime := (excB_ok (He.ba (all_at b1 5 rfl)).2).1,
    f_BadTime := He.ma K (He.ga K "BadTime") "__init__",
    X_BadTime := xB_ok (st := inClass (top 8) 0) (He.ba (all_at b1 5 rfl)).1 ((congrArg (exAt K) (ad_init (K := K) (x := "BadTime") (by decide +kernel))).symm.trans (ex 5 _ _ rfl rfl)) y_time (by decide +kernel) rfl rfl rfl rfl,
    y_BadTime := (excB_ok (He.ba (all_at b1 5 rfl)).2).2,
    e_TooLong := (excB_ok (He.ba (all_at b1 6 rfl)).2).1,
    f_TooLong := He.ma K (He.ga K "TooLong") "__init__",
    X_TooLong := xB_ok (st := inClass (top 9) 0) (He.ba (all_at b1 6 rfl)).1 ((congrArg (exAt K) (ad_init (K := K) (x := "TooLong") (by decide +kernel))).symm.trans (ex 6 _ _ rfl rfl)) y_time (by decide +kernel) rfl rfl rfl rfl,
    y_TooLong := (excB_ok (He.ba (all_at b1 6 rfl)).2).2,
    e_BadText := (excB_ok (He.ba (all_at b1 7 rfl)).2).1,
    f_BadText := He.ma K (He.ga K "BadText") "__init__",
    X_BadText := xB_ok (st := inClass (top 10) 0) (He.ba (all_at b1 7 rfl)).1 ((congrArg (exAt K) (ad_init (K := K) (x := "BadText") (by decide +kernel))).symm.trans (ex 7 _ _ rfl rfl)) y_line (by decide +kernel) rfl rfl rfl rfl,
    y_BadText := (excB_ok (He.ba (all_at b1 7 rfl)).2).2,
    h_LETTERS := He.str_ok X G (c1.fact 108 rfl),
    h_MOST_PARTS := He.int_ok X G (c1.fact 109 rfl),
    h_MOST_SIZE := He.int_ok X G (c1.fact 110 rfl),
    h_MOST_WIRES := He.int_ok X G (c1.fact 111 rfl),
    h_MOST_OUTPUTS := He.int_ok X G (c1.fact 112 rfl),
    h_MOST_TOLD := He.int_ok X G (c1.fact 113 rfl),
    n_ValueError := He.free_ok X G (c1.fact 52 rfl),
    n_all := He.free_ok X G (c1.fact 53 rfl),
    n_bool := He.free_ok X G (c1.fact 54 rfl),
    n_dict := He.free_ok X G (c1.fact 55 rfl),
    n_enumerate := He.free_ok X G (c1.fact 56 rfl),
    n_int := He.free_ok X G (c1.fact 57 rfl),
    n_isinstance := He.free_ok X G (c1.fact 58 rfl),
    n_len := He.free_ok X G (c1.fact 59 rfl),
    n_list := He.free_ok X G (c1.fact 60 rfl),
    n_max := He.free_ok X G (c1.fact 61 rfl),
    n_min := He.free_ok X G (c1.fact 62 rfl),
    n_range := He.free_ok X G (c1.fact 63 rfl),
    n_sorted := He.free_ok X G (c1.fact 64 rfl),
    n_staticmethod := He.free_ok X G (c1.fact 65 rfl),
    n_str := He.free_ok X G (c1.fact 66 rfl),
    n_sum := He.free_ok X G (c1.fact 67 rfl),
    n_tuple := He.free_ok X G (c1.fact 68 rfl),
    n_zip := He.free_ok X G (c1.fact 69 rfl) }
  have e := hfa.symm.trans (He.glo_ok X G (c1.fact 39 rfl))
  cases e
  have b := FunD.bindsA (ps := ["_law_script"]) F61 fun _ _ _ _ _ _ us hl => match us, hl with | [_], _ => rfl
  exact ⟨_, fun s v => b s [v] rfl, fun base _ _ => ok_law T⟩
end Lw
open PySem PySem.W PySem.Calls PyProof.Rows
theorem PySem.Challenge.cw_laternets_k10_net_texts_holds : PySem.Challenge.rw_laternets_k10_net_texts.Holds := by
  w_on; o_law
  refine HandSHeadRun.head_any (r := OpenLaw.row PySem.Challenge.rw_laternets_k10_net_texts) (q := view (OpenLaw.row PySem.Challenge.rw_laternets_k10_net_texts).prog [61]) (H := Lw.hk) (ob := Lw.ob) (M := 60000) (loose := Lw.loose) (d := HandSHeadRun.topDef (OpenLaw.row PySem.Challenge.rw_laternets_k10_net_texts).prog 61) (kwd := []) Lw.ob_eq
    (by kernel_rfl) (fun s => by kernel_rfl) Lw.run (by kernel_rfl) (by kernel_rfl) (by kernel_rfl) (by rfl) (by first | assumption | decide +kernel) (by decide +kernel) ⟨rfl, rfl, rfl, rfl, rfl, by decide +kernel⟩ ?hw ?hc
  case hw => w_witness2
  case hc =>
    refine L2.walk_ofE (l := PySem.Challenge.rw_laternets_k10_net_texts) (n := 63) (k := 32) (x := "_law_script") (CX := L2.CX0) rfl (by decide) (by kernel_rfl) ⟨rfl, by decide, by decide⟩ ?F (fun _ _ _ _ z => z)
    intro w mg fa h Y G hmg0
    obtain ⟨K, KX, c⟩ := Y
    have hmg : mg ("law" : PySem.Str) = some (.ref fa) := by
      have e : (HandSHeadRun.topDef (OpenLaw.row PySem.Challenge.rw_laternets_k10_net_texts).prog 61).name = ("law" : PySem.Str) := by kernel_rfl
      rw [← e]
      exact hmg0
    obtain ⟨fd, hb, hF⟩ := Lw.facts (w := w) KX G hmg c
    exact ⟨K, fd, Lw.spLaw K, KX, hb, fun H a ns hl _ hS => ⟨a, ns, rfl, hS, hl, fun _ => rfl⟩, hF⟩
