import PyProof.Rows.All
import Wide.All
import OpenK.AllK
import Wide.FinOn
import KE.KExcSuper
import KE.KExcIs
import HandS.ForExc
import HandS.ExcInit
import HandS.ExcField
import HandS.ExcIs
import HandS.IsInst
import HandS.Defaults
import HandS.ExcValue
import HandS.New
import HandS.MakeKw
import HandS.ExcOwn
import KE.GoesMore
import KE.GoesEnum
import HandS.Base
import HandS.Call
import HandS.List
import HandS.Iter
import HandS.Ends
import HandS.More
import HandS.Words
import HandS.WordsExc
import HandS.DeepEq
import HandS.Flow
import HandS.Style
import HandS.Comp
import HandS.Evl
import HandS.TupAny
import HandS.Walk
import HandS.Zip
import PyProof.StrBlock2
import KE.KStateDown
import HandS.Head0
import HandS.Head1
import HandS.Head2
import HandS.HeadEnd
import HandS.HeadHook1
import HandS.HeadHook2
import HandS.Lambda
import HandS.Conv
import HandS.Text
import HandS.Dict
import HandS.WordsDict
import HandS.DictComp
import HandS.SetFor
import HandS.OwnEq
import HandS.HeadHook4
import HandS.HeadWalk
import PySem.Challenge.RW_laternets_k03_nets_refused
import HandS.HotCalls
import HandS.Sort
import HandS.DictSubView
set_option Elab.async false
set_option linter.all false
set_option maxRecDepth 100000
set_option maxHeartbeats 0
/-! An own exception class over ValueError (some own classes may lie between) whose __init__ says super().__init__(y); self.y = y: made, held as a value, read, asked by isinstance. -/
namespace Sx
open PySem PySem.Spec PySem.W PySem.Calls PyProof.Rows PySem.HandSPX

def iArgs (y : Str) (p1 p2 : Pos) : Arguments := { posonlyargs := [], args := [{ arg := "self", annotation := none, pos := p1 }, { arg := y, annotation := none, pos := p2 }], vararg := none, kwonlyargs := [], kw_defaults := [], kwarg := none, defaults := [] }
def iSup (y : Str) (q1 q2 q3 q4 q5 q6 : Pos) : Stmt := .Expr (.Call (.Attribute (.Call (.Name "super" q1) [] [] q2) "__init__" q3) [.Name y q4] [] q5) q6
def iSet (y : Str) (q7 q8 q9 q10 : Pos) : Stmt := .Assign [.Attribute (.Name "self" q7) y q8] (.Name y q9) q10
def iScope (y : Str) : Scope := { kind := .function, names := [(PySem.Str.ofString "self", .local), (y, .local), (PySem.Str.ofString "__class__", .free), (PySem.Str.ofString "super", .globalImplicit)], isGenerator := false, isCoroutine := false, more := [] }

/-- a field's name: it is no other name that __init__ uses -/
structure YOk (y : Str) : Prop where
  nself : ¬ (y = "self")
  nclass : ¬ (y = "__class__")
  nsuper : ¬ (y = "super")
  ndebug : (y == ("__debug__" : Str)) = false
  bd : ∀ (qual : Str) (p1 p2 : Pos) (body : List Stmt) (doc pm : Value) (an : Option Addr) (cdv ct : Value) (cc : Addr) (a v : Value),
    bindArgs (ksFn "__init__" qual (iArgs y p1 p2) body (iScope y) .none .none doc pm an cdv ct cc) ⟨[a, v], []⟩ = (pure ([("self", a), (y, v)] : List (Str × Value)) : Sem (List (Str × Value)))
  bk : ∀ (qual : Str) (p1 p2 : Pos) (body : List Stmt) (doc pm : Value) (an : Option Addr) (cdv ct : Value) (cc : Addr) (a v : Value),
    bindArgs (ksFn "__init__" qual (iArgs y p1 p2) body (iScope y) .none .none doc pm an cdv ct cc) ⟨[a], [(y, v)]⟩ = (pure ([("self", a), (y, v)] : List (Str × Value)) : Sem (List (Str × Value)))
theorem y_thing : YOk "thing" := ⟨by decide, by decide, by decide, by decide, fun _ _ _ _ _ _ _ _ _ _ _ _ => rfl, fun _ _ _ _ _ _ _ _ _ _ _ _ => rfl⟩
theorem y_name : YOk "name" := ⟨by decide, by decide, by decide, by decide, fun _ _ _ _ _ _ _ _ _ _ _ _ => rfl, fun _ _ _ _ _ _ _ _ _ _ _ _ => rfl⟩
/-- what the written part says of the class at C, whose __init__ stands at fI; y its field -/
structure XTxt (K : Frag) (prog : Program) (y : Str) (C fI : Addr) : Prop where
  cls : ∃ nm q N bs bm sn sub ab col dd k0 k1 k2 k3 k5, K.lookup C = some (excClassObj nm q C N bs bm true sn sub ab col dd k0 k1 k2 k3 k5 "ValueError.__new__") ∧ refsVE bm = true ∧ alongIn K "__init__" bm = some (some (.builtin "ValueError.__init__"))
  sa : findIn K (.ref C) "__setattr__" = some (some (.builtin "object.__setattr__"))
  noY : findIn K (.ref C) y = some none
  iC : findIn K (.ref C) "__init__" = some (some (.ref fI))
  tC : typeIn K (.ref fI) = some (.type "function")
  kC : keepIn K (.ref C) = true
  th : nsIn K cStatics "thirdparty.any" = some none
  su : nsIn K mainGlobals "super" = some none
  yok : YOk y
  top : (prog.main.scope.names.lookup ("super" : Str)).isSome = false
  fn : ∃ (oc : Value) (od : Option Addr) (qual : Str) (doc pm : Value) (an : Option Addr) (cda cc : Addr) (ct : Value) (osl : Array (Option Value)) (p1 p2 q1 q2 q3 q4 q5 q6 q7 q8 q9 q10 : Pos),
    K.lookup fI = some ⟨oc, od, .func (ksFn "__init__" qual (iArgs y p1 p2) [iSup y q1 q2 q3 q4 q5 q6, iSet y q7 q8 q9 q10] (iScope y) .none .none doc pm an (.ref cda) ct cc), osl⟩ ∧ codeIn K (.ref cda) qual = true ∧
    (∃ ccl cdd vs ccs file tf, K.lookup cda = some ⟨ccl, cdd, .fields vs, ccs⟩ ∧ vs[2]? = some (.str file tf) ∧ ((prog.main.file : Str) == file) = true) ∧
    (q3.endLine == q5.line) = true ∧ (∃ cl cld csl, K.lookup cc = some ⟨cl, cld, .cell (some (.ref C)), csl⟩)

/-- a method's call with one plain argument, written on one line -/
theorem ev_meth1 {o e : Expr} {name : Str} {apos pos : Pos} {env : Env} (hp : (apos.endLine == pos.line) = true) (hs : starEach [e] env = [(false, eval e env)]) :
    eval (.Call (.Attribute o name apos) [e] [] pos) env = (do
      let ov ← attributeBase o name env (eval o env)
      standAt apos.atName
      let (f, first) ← holding [ov] (getMethod ov name (do return (← importBound o env).getD true))
      callWith pos f first (backTo pos (starEach [e] env)) []) := by
  show (do
    let ov ← attributeBase o name env (eval o env)
    standAt apos.atName
    methodCall o name apos pos env ov (1 + 0) (backTo pos (starEach [e] env)) (backToKw pos (keywordEach [] env))) = _
  have hb : methodCallForm (1 + 0) (backTo pos (starEach [e] env)) (backToKw pos (keywordEach [] env)) = true := by
    rw [hs]
    rfl
  unfold methodCall
  rw [hb]
  have hpos : methodCallPos true o env apos pos = pure pos := by
    unfold methodCallPos
    rw [hp]
    rfl
  rw [hpos]
  rfl
/-- what __init__ leaves of a fresh exception at x -/
structure InitEnd (h h' : Heap) (x C dx t1 : Addr) (y : Str) (v : Value) : Prop where
  keep : ∀ b o, b ≠ x → h.get? b = some o → h'.get? b = some o
  obj : h'.get? x = some { cls := .ref C, dict := some dx, data := .fields #[.ref t1, .none, .none, .none, .bool false, .none] }
  dbig : h.objs.size ≤ dx
  dne : dx ≠ x
  ns : h'.Ns1 dx (fun z => if z = y then some v else none)

section
variable {prog : Program} {w : World} {A : Around} {E : Value → Shared → Prop} {R : Result → Shared → Prop} {s : Shared} {K : Frag} {mg : Str → Option Value} {C fI : Addr} {y : Str}
/-- the wrapper ValueError.__init__ of x, called: the args are laid anew -/
theorem call_wrap {u x t0 : Addr} {rest : List Value} {h : Heap} {g : Array GenState} {d : Drawn} {t : Nat} {os : OsState} {Q : Value → Shared → Prop}
    {nm q : Str} {N : Addr} {bs bm : List Value} {hdct : Bool} {sn : List Str} {sub : List Value} {ab : Bool} {col : Option Bool} {dd : Option Addr} {k0 k1 k2 k3 k5 : Option Value}
    (hC : h.get? C = some (excClassObj nm q C N bs bm hdct sn sub ab col dd k0 k1 k2 k3 k5 "ValueError.__new__")) (hx : h.get? x = some (excO C t0)) (hu : h.get? u = some (kxs_mw "ValueError.__init__" x)) (hz : rest.length ≤ sizeLine)
    (hq : ∀ h' t1, (∀ b o, b ≠ x → h.get? b = some o → h'.get? b = some o) → h'.get? x = some (excO C t1) → Q .none ⟨h', g, d, t, os⟩) :
    wpAny (model prog w) A (call (.ref u) rest) Q E ⟨h, g, d, t, os⟩ := by
  have FB := PySem.F.excBase_ValueError
  refine wpAny_call (codeAny_of_tree ?_)
  show wpAny _ A.in1 (callAny (.ref u) ⟨rest, []⟩) _ _ _
  simp only [callAny]
  refine wpAny_bind (wpAny_load hu ?_)
  simp only [kxs_mw, show (Value.type "method-wrapper" == Value.type "method" || Value.type "method-wrapper" == Value.type "builtin_function_or_method" || Value.type "method-wrapper" == Value.type "method-wrapper") = true by decide, if_true]
  refine KFB.if_so (by decide) ?_
  refine wpAny_bind (check_bound_init FB.toExcCallFacts hC hx rfl ?_)
  refine wpAny_bind (wpAny_pure (wpAny_pure ?_))
  refine ⟨plainId_quiet FB.init.plain _, codeAny_builtin FB.initEntry ?_⟩
  exact exc_init_tree (cls := .ref C) (t0 := t0) (dv := none) (c2 := .none) (c3 := .none) (b4 := .bool false) hx hz fun h' k e _ => hq h' _ k e

theorem sx_init (T : XTxt K prog y C fI) {x t0 : Addr} {v : Value} (X : K.In s.heap) (G : s.heap.Ns mainGlobals mg) (B : ∃ mb, s.heap.Ns builtinsNs mb ∧ ∀ z : Str, z ≠ "__name__" → mb z = bootBuiltins z) (hlim : s.heap.NoLimit)
    (hx : s.heap.get? x = some (excO C t0)) (hnx : K.lookup x = none) (hroom : A.depth < recursionLimit) {ar : Args} (har : ar = ⟨[.ref x, v], []⟩ ∨ ar = ⟨[.ref x], [(y, v)]⟩)
    (hq : ∀ h' tk dx t1, InitEnd s.heap h' x C dx t1 y v → R (.ok (.ret .none)) { s with heap := h', toks := tk }) :
    codeAny (model prog w) A (.call (.ref fI) ar) R s := by
  obtain ⟨oc, od, qual, doc, pm, an, cda, cc, ct, osl, p1, p2, q1, q2, q3, q4, q5, q6, q7, q8, q9, q10, ho, hcd, ⟨ccl, cdd, vs, ccs, file, tf, hcode, hvs, hfile⟩, hpos, ⟨cl, cld, csl, hcell⟩⟩ := T.fn
  obtain ⟨nm, q, N, bs, bm, sn, sub, ab, col, dd, k0, k1, k2, k3, k5, hC, hbm, hal⟩ := T.cls
  have hcl : clsIn K C = some { name := nm, bases := bs, mro := .ref C :: bm, ns := N, qualname := q, hasDict := true, slotNames := sn, subclasses := sub, abstract := ab, collection := col, hasDel := false } := by unfold clsIn; rw [hC] <;> rfl
  have yo := T.yok
  have e1 : (y == ("self" : Str)) = false := by simpa using yo.nself
  have e2 : (("self" : Str) == y) = false := by simpa using (fun z : ("self" : Str) = y => yo.nself z.symm)
  have ey : (iScope y).names.lookup y = some .local := by
    show (match y == ("self" : Str) with | true => some NameKind.local | false => List.lookup y [(y, NameKind.local), (PySem.Str.ofString "__class__", .free), (PySem.Str.ofString "super", .globalImplicit)]) = _
    rw [e1]
    simp [List.lookup]
  refine ks_codeAny_call_defAt (fd := ksFn "__init__" qual (iArgs y p1 p2) [iSup y q1 q2 q3 q4 q5 q6, iSet y q7 q8 q9 q10] (iScope y) .none .none doc pm an (.ref cda) ct cc) (body := [iSup y q1 q2 q3 q4 q5 q6, iSet y q7 q8 q9 q10]) (binds := [("self", .ref x), (y, v)]) hroom (X _ _ ho) rfl hlim (codeRec_of X hcd) rfl (.of_eq (by rcases har with rfl | rfl; exact yo.bd _ _ _ _ _ _ _ _ _ _ _ _; exact yo.bk _ _ _ _ _ _ _ _ _ _ _ _)) ?_ ?_ (fun h₁ hns hk₁ => ?_) rfl rfl rfl
  · intro z hz
    simp only [ksFn, iScope] at hz
    rcases List.mem_cons.mp hz with rfl | hz
    · decide
    rcases List.mem_cons.mp hz with rfl | hz
    · intro z
      cases z
    rcases List.mem_cons.mp hz with rfl | hz
    · decide
    rcases List.mem_cons.mp hz with rfl | hz
    · decide
    cases hz
  · intro z hz
    rcases List.mem_cons.mp hz with rfl | hz
    · rfl
    rcases List.mem_cons.mp hz with rfl | hz
    · exact ey
    cases hz
  · have X₁ : K.In h₁ := X.keeps hk₁
    have hx₁ := hk₁ _ _ hx
    have eC : (("__class__" : Str) == y) = false := by simpa using (fun z : ("__class__" : Str) = y => yo.nclass z.symm)
    have eS : (("super" : Str) == y) = false := by simpa using (fun z : ("super" : Str) = y => yo.nsuper z.symm)
    have kS : (iScope y).names.lookup ("super" : Str) = some .globalImplicit := by
      show (match ("super" : Str) == y with | true => some NameKind.local | false => some NameKind.globalImplicit) = _
      rw [eS]
    have kC : (iScope y).names.lookup ("__class__" : Str) = some .free := by
      show (match ("__class__" : Str) == y with | true => some NameKind.local | false => some NameKind.free) = _
      rw [eC]
    have mS : ([(("self" : Str), Value.ref x), (y, v)].reverse.lookup ("self" : Str)) = some (.ref x) := by
      show (match ("self" : Str) == y with | true => some v | false => some (Value.ref x)) = _
      rw [e2]
    have mY : ([(("self" : Str), Value.ref x), (y, v)].reverse.lookup y) = some v := by
      show (match y == y with | true => some v | false => _) = _
      simp
    have mroE : (((.ref C :: bm : List Value).dropWhile (· != .ref C)).drop 1) = bm := by simp [List.dropWhile_cons]
    obtain ⟨mb, hb1, hb2⟩ := B
    have hxL : x ≠ s.heap.objs.size := Nat.ne_of_lt (Heap.lt_size hx)
    have hxC : x ≠ C := fun z => by rw [z, hC] at hnx; cases hnx
    have hself := hC
    have I₁ : PySem.W.InstAt h₁ x (excO C t0) C none := ⟨hx₁, rfl, rfl, trivial⟩
    show _root_.PySem.wpAt (model prog w) (A.deeper (ksEnv qual (iScope y) s.heap.objs.size fI (.ref cda) cc)) (.func [iSup y q1 q2 q3 q4 q5 q6, iSet y q7 q8 q9 q10] (ksEnv qual (iScope y) s.heap.objs.size fI (.ref cda) cc))
      (execs [iSup y q1 q2 q3 q4 q5 q6, iSet y q7 q8 q9 q10] (ksEnv qual (iScope y) s.heap.objs.size fI (.ref cda) cc)) _ _ _
    refine ks_wpAt_execs_cons ?_
    refine ks_wpAt_Expr_any ?_
    refine ks_wpAt_MethodCall ?_ (ev_meth1 hpos rfl)
    refine ks_wpAt_super_base (env := ksEnv qual (iScope y) s.heap.objs.size fI (.ref cda) cc) kS kC (by decide) rfl (X₁ _ _ ho) rfl rfl rfl (X₁ _ _ hcode) rfl hvs hfile T.top ?_
    refine ks_loadName_global rfl kS (loadGlobal_builtin (env := ksEnv qual (iScope y) s.heap.objs.size fI (.ref cda) cc) (G.keeps hk₁) (mg_none_of X G T.su) (hb1.keeps hk₁) ((hb2 _ (by decide)).trans (by first | rfl | decide +kernel | kernel_rfl)) ⟨rfl, ?_⟩)
    refine wpAny_loadName_free rfl kC rfl ⟨_, X₁ _ _ hcell, rfl⟩ ?_
    refine wpAny_loadName_local rfl (by rfl) hns mS ?_
    refine ks_wpAny_isType_cls (X₁ _ _ hC) rfl ⟨rfl, ?_⟩
    refine ks_wpAny_call_super (X₁ _ _ hC) rfl hx₁ rfl (fun c e => by cases e) (looks_mroIn X₁ (by unfold mroIn; rw [hcl]; simp)) (fun h₂ hso k₂ => ?_)
    have X₂ : K.In h₂ := X₁.keeps k₂
    have hx₂ := k₂ _ _ hx₁
    have hns₂ : h₂.Ns s.heap.objs.size (fun z => ([(("self" : Str), Value.ref x), (y, v)] : List (Str × Value)).reverse.lookup z) := hns.at fun o e => k₂ _ o e
    have I₂ : PySem.W.InstAt h₂ x (excO C t0) C none := ⟨hx₂, rfl, rfl, trivial⟩
    have hve : mroIn K C (.type "ValueError") = some true := by
      have e0 : (Value.ref C :: bm).contains (.type "ValueError") = true := (List.contains_cons ..).trans (by rw [refsVE_contains "ValueError" _ hbm]; show (false || veTail.contains (Value.type "ValueError")) = true; decide +kernel)
      unfold mroIn
      rw [hcl, Option.bind_some, if_neg (by simp), e0]
    refine kxs_getMethod kxs_ValueError hso (looks_opaque X₂ T.th) (l₀ := .ref C :: bm) (l := bm) (fun A Q E s k q => wpAny_bind ((looks_clsIn X₂ hcl) A _ E s k (wpAny_pure q))) mroE X₂ hal (I₂.type.andThen (looks_mroIn X₂ hve)) hxC (by decide) ?_
    have hu : (h₂.push (kxs_mw "ValueError.__init__" x)).get? h₂.objs.size = some (kxs_mw "ValueError.__init__" x) := Heap.get?_push_size _ rfl
    have k₃ : ∀ b o, h₂.get? b = some o → (h₂.push (kxs_mw "ValueError.__init__" x)).get? b = some o := fun b o e => Heap.get?_push_of_some _ e
    refine kxs_callWith (i := "ValueError.__init__") (x := x) rfl (evalArgs_plain ?_)
    refine Calls.spliced_cons (wpAny_Name (wpAny_loadName_local rfl ey (hns₂.at fun o e => k₃ _ o e) mY ?_) yo.ndebug)
    refine Calls.spliced_nil ⟨hu, ?_⟩
    refine call_wrap (X₂.keeps k₃ _ _ hC) (k₃ _ _ hx₂) hu (by show 1 ≤ sizeLine; decide) fun h₄ t1 k₄ hx₄ => ?_
    have kx : ∀ b o, b ≠ x → s.heap.get? b = some o → h₄.get? b = some o := fun b o hb e => k₄ b o hb (k₃ b o (k₂ b o (hk₁ b o e)))
    have X₄ : K.In h₄ := fun a o e => by
      have hax : a ≠ x := fun z => by rw [z, hnx] at e; cases e
      exact kx a o hax (X a o e)
    have hns₄ : h₄.Ns s.heap.objs.size (fun z => ([(("self" : Str), Value.ref x), (y, v)] : List (Str × Value)).reverse.lookup z) := hns₂.at fun o e => k₄ _ o (Ne.symm hxL) (k₃ _ o e)
    refine wpAt_of_wpAny ?_
    refine wpAny_execs_cons (plainObj_wpAny_Assign_Attribute ?_)
    refine wpAny_Name (wpAny_loadName_local rfl ey hns₄ mY ?_) yo.ndebug
    refine wpAny_Name (wpAny_loadName_local rfl (by rfl) hns₄ mS ?_) (by decide)
    refine set_plain X₄ (ox := excO C t1) (od := none) ⟨hx₄, rfl, rfl, trivial⟩ T.sa ?_
    refine exc_osa X₄ hx₄ hcl (show refsVE (.ref C :: bm) = true from hbm) rfl T.noY (fun h₅ tk₅ dx k₅ dn dne hx₅ hn₅ => ?_)
    have z : s.heap.objs.size ≤ h₄.objs.size := Nat.le_of_lt hns₄.lt
    exact wpAny_execs_nil (hq h₅ tk₅ dx t1 ⟨fun b o hb e => k₅ b o hb (kx b o hb e), hx₅, Nat.le_trans z dn, dne, hn₅⟩)

/-- a made one -/
structure Made (h h' : Heap) (e C d : Addr) (y : Str) (v : Value) : Prop where
  keep : ∀ b o, h.get? b = some o → h'.get? b = some o
  new : h.objs.size ≤ e
  obj : ∃ t1 : Addr, h'.get? e = some ({ cls := .ref C, dict := some d, data := .fields #[.ref t1, .none, .none, .none, .bool false, .none] } : Obj)
  dbig : h.objs.size ≤ d
  dne : d ≠ e
  ns : h'.Ns1 d (fun z => if z = y then some v else none)
theorem one_size (v : Value) : [v].length ≤ sizeLine := by
  rw [sizeLine_eq]
  exact (by decide : 1 ≤ 16777216)
theorem sx_made (T : XTxt K prog y C fI) {v : Value} (X : K.In s.heap) (G : s.heap.Ns mainGlobals mg) (B : ∃ mb, s.heap.Ns builtinsNs mb ∧ ∀ z : Str, z ≠ "__name__" → mb z = bootBuiltins z) (hlim : s.heap.NoLimit) (hroom : A.depth + 1 < recursionLimit)
    (hq : ∀ h' tk e d, Made s.heap h' e C d y v → R (.ok (.ret (.ref e))) { s with heap := h', toks := tk }) :
    codeAny (model prog w) A (.call (.ref C) ⟨[v], []⟩) R s := by
  obtain ⟨nm, q, N, bs, bm, sn, sub, ab, col, dd, k0, k1, k2, k3, k5, hC, hbm, hal⟩ := T.cls
  obtain ⟨hp, g, dr, tk, os⟩ := s
  have k : ∀ b o, hp.get? b = some o → ((hp.push (kdv_tup [v])).push (excO C hp.objs.size)).get? b = some o := fun b o e => Heap.get?_push_of_some _ (Heap.get?_push_of_some _ e)
  have hget : ((hp.push (kdv_tup [v])).push (excO C hp.objs.size)).get? (hp.objs.size + 1) = some (excO C hp.objs.size) := by heap_get
  have hnx : K.lookup (hp.objs.size + 1) = none := by
    cases e : K.lookup (hp.objs.size + 1) with
    | none => rfl
    | some o =>
      have z : hp.get? (hp.objs.size + 1) = some o := X _ _ e
      exact absurd (Nat.lt_of_succ_lt (Heap.lt_size z)) (Nat.lt_irrefl _)
  obtain ⟨mb, hb1, hb2⟩ := B
  refine call_own PySem.F.excBase_ValueError (fun X => refsVE_contains X bm hbm) (X _ _ hC) (looks_findIn X T.iC) (fun self => bind_fn X self T.tC) (one_size v) ?_
  refine sx_init (s := ⟨(hp.push (kdv_tup [v])).push (excO C hp.objs.size), g, dr, tk, os⟩) T (X.keeps k) (G.keeps k) ⟨mb, hb1.keeps k, hb2⟩ (hlim.keeps k) hget hnx ?_ (.inl rfl) fun h' tk' dx t1 ⟨k', hx, dn, dne, hns⟩ => ?_
  · show A.depth + 1 < recursionLimit
    exact hroom
  · have old : ∀ b o, hp.get? b = some o → h'.get? b = some o := fun b o e => k' b o (Nat.ne_of_lt (Nat.lt_succ_of_lt (Heap.lt_size e))) (k b o e)
    have z : hp.objs.size + 1 + 1 ≤ dx := by
      have q := dn
      rw [Heap.size_push, Heap.size_push] at q
      exact q
    exact ⟨rfl, hq h' tk' (hp.objs.size + 1) dx ⟨old, Nat.le_succ _, ⟨t1, hx⟩, Nat.le_trans (Nat.le_trans (Nat.le_succ _) (Nat.le_succ _)) z, dne, hns⟩⟩
end
end Sx
namespace L2
open PySem PySem.Spec PyProof.Rows
theorem relO_y {y : Str} {v : V} {v' : Value} (r : RelV v v') (f : Str) : RelO (List.lookup f [(y, v)]) (if f = y then some v' else none) := by
  by_cases hw : f = y
  · subst hw
    rw [if_pos rfl]
    have q : List.lookup f [(f, v)] = some v := by simp [List.lookup]
    rw [q]
    exact r
  · rw [if_neg hw]
    have qw : (f == y) = false := by simpa using hw
    have q2 : List.lookup f [(y, v)] = none := by simp [List.lookup, qw]
    rw [q2]
    trivial
section
variable {X : Cx} {C fI : Addr} {y x : Str}
/-- the state with a new exception e of C, its field y holding v in its dict d -/
def putX (H : Hp) (e d C : Addr) (y : Str) (v : V) : Hp := upd (upd H d (.xd [(y, v)])) e (exo e C (some d))
theorem sx_laid {pins : List (Addr × Obj)} {σ : St} {H : Hp} {hp h' : Heap} {g : Array GenState} {dr : Drawn} {tk tk' : Nat} {os : OsState} {e d : Addr} {v : V} {v' : Value} (I : Inv X pins σ H ⟨hp, g, dr, tk, os⟩) (rv : RelV v v') (M : Sx.Made hp h' e C d y v') :
    Inv X pins σ (putX H e d C y v) ⟨h', g, dr, tk', os⟩ ∧ H e = none ∧ H d = none ∧ d ≠ e := by
  obtain ⟨t1, hoe⟩ := M.obj
  obtain ⟨G', g1, g2⟩ := restrict h' fun b => decide (b ≠ e)
  have gk : ∀ b, b ≠ e → G'.get? b = h'.get? b := fun b hb => g1 b (decide_eq_true hb)
  have ge : G'.get? e = none := g2 e (by simp)
  have old : ∀ b o, hp.get? b = some o → G'.get? b = some o := fun b o q => (gk b (Nat.ne_of_lt (Nat.lt_of_lt_of_le (Heap.lt_size q) M.new))).trans (M.keep b o q)
  have ob : ObjOk X.prog X.w (upd H d (.xd [(y, v)])) G' d (.xd [(y, v)]) := ⟨_, M.ns.at (fun o q => (gk d M.dne).trans q), fun f => relO_y rv f⟩
  have J : Inv X pins σ (upd H d (.xd [(y, v)])) ⟨G', g, dr, tk', os⟩ := I.laid (t' := tk') old M.dbig ob
  have hd := I.hok.fresh M.dbig
  have he := I.hok.fresh M.new
  have hn : (upd H d (.xd [(y, v)])) e = none := by rw [upd_ne (Ne.symm M.dne)]; exact he
  have J2 : Inv X pins σ (upd (upd H d (.xd [(y, v)])) e (exo e C (some d))) ⟨h', g, dr, tk', os⟩ := J.laidN (h' := h') (t' := tk') (fun b o q => (gk b (fun z => by rw [z] at q; have q' : G'.get? e = some o := q; rw [ge] at q'; cases q')).symm.trans q) ge hn (exo_ok hoe)
  exact ⟨J2, he, hd, M.dne⟩
/-- C(a) -/
def tMkX (C : Addr) (y : Str) (ta : TA) : TE := fun σ H Q => ta σ H fun vs H1 => ∃ v, vs = [v] ∧ ∀ e d, H1 e = none → H1 d = none → d ≠ e → Q (.ref e) (putX H1 e d C y v)
theorem pe_sx {a : Expr} {ta : TA} {p pos : Pos} {k : Nat} (T : Sx.XTxt X.K X.prog y C fI) (hr : Room (k + 1) X.A) (hm : X.mg x = some (.ref C)) (ha : PA X [a] ta) (hg : Gl X x := by rfl)
    (he : starEach (a :: []) X.env = (false, eval a X.env) :: starEach [] X.env := by rfl) (hpl : (backTo pos (starEach [] X.env)).any (·.1) = false := by rfl) (hdb : (x == ("__debug__" : Str)) = false := by decide) :
    PE X (.Call (.Name x p) [a] [] pos) (tMkX C y ta) := by
  refine ⟨fun pins s σ H Q I h => ?_⟩
  refine wpAny_Call_Name_kw (ld_glob I hg hm ?_ hdb)
  refine PySem.W.callWith_K (h₀ := X.base) I.ok.mod.kin T.kC (thn (ha.run pos pins s σ H _ I h) fun us s1 hh => ?_) he hpl
  obtain ⟨vs, H1, I1, r1, v, ev, q1⟩ := hh
  subst ev
  refine ⟨I1.kIn, ?_⟩
  cases r1 with
  | cons rv rn =>
    rename_i v' us'
    cases rn
    show wpAny _ _ (call (.ref C) [v']) _ _ _
    have hlim := I1.nolimit
    obtain ⟨mb, h1, h2⟩ := I1.mod.blt
    have G := I1.mod.glob.keeps I1.bk
    have B := h1.keeps I1.bk
    have KI := I1.kIn
    obtain ⟨hp, g, dr, tk, os⟩ := s1
    refine wpAny_call (Sx.sx_made T KI G ⟨mb, B, h2⟩ hlim (by have := hr.dp; omega) fun h' tk' e d M => ?_)
    obtain ⟨J, e1, e2, e3⟩ := sx_laid (tk' := tk') I1 rv M
    exact ⟨.ref e, _, J, rfl, q1 e d e1 e2 e3⟩
end
end L2
/-! The same, made by a call with one keyword: C(y = a). -/
namespace Sx
section
open PySem PySem.Spec PySem.HandSPX Builtin
section
variable {M : Model} {A : Around} {E : Value → Shared → Prop} {h : Heap} {g : Array GenState} {d : Drawn} {t : Nat} {os : OsState}
variable {nm q : Str} {C N : Addr} {bs bm bmB : List Value} {hdct : Bool} {sn : List Str} {sub : List Value} {ab : Bool} {col : Option Bool} {dd : Option Addr} {k0 k1 k2 k3 k5 : Option Value} {B newId initId : String}
theorem kw_check_type {M : Model} {kw : List (Str × Value)} {Q : Unit → Shared → Prop} (hC : h.get? C = some (excClassObj nm q C N bs bm hdct sn sub ab col dd k0 k1 k2 k3 k5 newId))
    (hq : Q () ⟨h, g, d, t, os⟩) : wpAny M A (checkBuiltinCall "type.__call__" ⟨[.ref C], kw⟩) Q E ⟨h, g, d, t, os⟩ := by
  have f3 := tc_sub
  have hT : (⟨h, g, d, t, os⟩ : Shared).TypeIs (.ref C) "type" := ⟨_, hC, rfl⟩
  simp only [checkBuiltinCall, tc_kind, tc_split]
  repeat (any_goals (first | assumption | with_reducible refine wpAny_loadPart_at hC ?_ | with_reducible refine wpAny_onRaise ?_ | with_reducible refine wpAny_map ?_ | wp_step))
theorem kw_check_new (F : ExcBaseFacts B newId initId bmB) (hT : ∀ X : String, bm.contains (.type X) = bmB.contains (.type X)) {y : Str} {v : Value} {Q : Unit → Shared → Prop}
    (hC : h.get? C = some (excClassObj nm q C N bs bm hdct sn sub ab col dd k0 k1 k2 k3 k5 newId)) (hq : Q () ⟨h, g, d, t, os⟩) : wpAny M A (checkBuiltinCall newId ⟨[.ref C], [(y, v)]⟩) Q E ⟨h, g, d, t, os⟩ := by
  have hcont : (Value.ref C :: bm).contains (.type B) = true := by rw [List.contains_cons, hT, F.hasB, Bool.or_true]
  have hstar := F.noStar
  simp only [checkBuiltinCall, F.newKind, F.newSplit, F.newRow]
  repeat (first | refine wpAny_loadPart_at hC ?_ | (refine wpAny_isSubtype_exc hC ?_; rw [hcont]) | refine wpAny_staticBase_exc hC ?_ | refine wpAny_madeBy_exc hC ?_ | simp only [bne_self_eq_false, Bool.false_eq_true, if_false] | wp_step)
  exact hq
end
section
variable {prog : Program} {w : World} {A : Around} {E : Value → Shared → Prop} {R : Result → Shared → Prop} {h : Heap} {g : Array GenState} {d : Drawn} {t : Nat} {os : OsState}
variable {nm q : Str} {C N : Addr} {bs bm bmB : List Value} {hdct : Bool} {sn : List Str} {sub : List Value} {ab : Bool} {col : Option Bool} {dd : Option Addr} {k0 k1 k2 k3 k5 : Option Value} {B newId initId : String}

theorem kw_new (F : ExcBaseFacts B newId initId bmB) (hT : ∀ X : String, bm.contains (.type X) = bmB.contains (.type X)) {y : Str} {v : Value}
    (hC : h.get? C = some (excClassObj nm q C N bs bm hdct sn sub ab col dd k0 k1 k2 k3 k5 newId))
    (hq : R (.ok (.ret (.ref (h.objs.size + 1)))) ⟨(h.push (W.kdv_tup [])).push (excO C h.objs.size), g, d, t, os⟩) :
    codeAny (model prog w) A (.builtin newId ⟨[.ref C], [(y, v)]⟩) R ⟨h, g, d, t, os⟩ := by
  have hends := F.ends
  have hrest : ([] : List Value).length ≤ sizeLine := Nat.zero_le _
  have hcB : (Value.ref C :: bm).contains (.type B) = true := by rw [List.contains_cons, hT, F.hasB, Bool.or_true]
  have hcA : (Value.ref C :: bm).contains (.type "AttributeError") = false := by rw [List.contains_cons, hT, F.noAttr]; rfl
  have hcN : (Value.ref C :: bm).contains (.type "NameError") = false := by rw [List.contains_cons, hT, F.noName]; rfl
  refine codeAny_builtinAt F.entry ?_
  unfold Builtin.«BaseException.__new__»
  refine wpAt_bind ?_
  show wpAt _ _ _ (stack >>= _) _ _ _
  refine wpAt_bind (wpAt_stack fun p below => wpAt_of_wpAny ?_)
  wp_walk
  refine wpAt_of_wpAny ?_
  rw [F.owner]
  repeat (first | with_reducible refine wpAny_madeHere_exc F.canon hC ?_ | with_reducible refine wpAny_loadPart_at hC ?_ | (with_reducible refine wpAny_isSubtype_exc hC ?_; first | rw [hcB] | rw [hcA] | rw [hcN]) | wp_step)
  show R _ _
  rw [Heap.size_push]
  exact hq
theorem kw_type_call (F : ExcBaseFacts B newId initId bmB) (hT : ∀ X : String, bm.contains (.type X) = bmB.contains (.type X)) {y : Str} {v : Value} {fI : Addr} {Q : Fin → Shared → Prop}
    (hC : h.get? C = some (excClassObj nm q C N bs bm hdct sn sub ab col dd k0 k1 k2 k3 k5 newId))
    (hi : W.Looks (model prog w) h (typeLookup (.ref C) "__init__") (some (.ref fI))) (hb : ∀ self, W.Looks (model prog w) h (bindSpecial (.ref fI) self) (.ref fI, [self]))
    (hq : codeAny (model prog w) A (.call (.ref fI) ⟨[.ref (h.objs.size + 1)], [(y, v)]⟩)
      (fun r s' => match r with | .ok (.ret v) => v = .none ∧ Q (.done (.ret (.ref (h.objs.size + 1)))) s' | .ok _ => False | .error e => E e s')
      ⟨(h.push (W.kdv_tup [])).push (excO C h.objs.size), g, d, t, os⟩) :
    wpAny (model prog w) A (Builtin.«type.__call__» ⟨[.ref C], [(y, v)]⟩) Q E ⟨h, g, d, t, os⟩ := by
  repeat (first | with_reducible refine wpAny_loadPart_at hC ?_ | with_reducible refine wpAny_madeBy_exc hC ?_ | wp_step)
  refine codeAny_call_builtin_code (Code.quiet_builtin _ F.quiet) (kw_check_new F hT hC ?_)
  refine kw_new F hT hC ?_
  show wpAny _ _ _ _ _ _
  have k : ∀ b o, h.get? b = some o → ((h.push (W.kdv_tup [])).push (excO C h.objs.size)).get? b = some o := fun b o e => Heap.get?_push_of_some _ (Heap.get?_push_of_some _ e)
  have hC₁ := k _ _ hC
  have hget : ((h.push (W.kdv_tup [])).push (excO C h.objs.size)).get? (h.objs.size + 1) = some (excO C h.objs.size) := by heap_get
  have hcC : (Value.ref C :: bm).contains (.ref C) = true := by simp
  have i1 := hi.keeps k
  have b1 := (hb (.ref (h.objs.size + 1))).keeps k
  unfold isInstance
  repeat (first | with_reducible refine wpAny_loadPart_at hget ?_ | (with_reducible refine wpAny_isSubtype_exc hC₁ ?_; rw [hcC]) | wp_step)
  show wpAny _ _ (typeLookup (.ref C) _) _ _ _
  refine i1.at ?_
  refine wpAny_holding (wpAny_bind (b1.at ?_))
  refine wpAny_bind (wpAny_call (codeAny_mono hq fun r s' z => ?_))
  rcases r with e | (v | _ | _ | _) <;> first | exact z | exact z.elim | skip
  obtain ⟨rfl, z⟩ := z
  first
    | exact wpAny_pure (wpAny_pure z)
    | (wp_walk; exact z)
theorem kw_call (F : ExcBaseFacts B newId initId bmB) (hT : ∀ X : String, bm.contains (.type X) = bmB.contains (.type X)) {y : Str} {v : Value} {fI : Addr}
    (hC : h.get? C = some (excClassObj nm q C N bs bm hdct sn sub ab col dd k0 k1 k2 k3 k5 newId))
    (hi : W.Looks (model prog w) h (typeLookup (.ref C) "__init__") (some (.ref fI))) (hb : ∀ self, W.Looks (model prog w) h (bindSpecial (.ref fI) self) (.ref fI, [self]))
    (hq : codeAny (model prog w) (A.under (.builtin "type.__call__" ⟨[.ref C], [(y, v)]⟩)) (.call (.ref fI) ⟨[.ref (h.objs.size + 1)], [(y, v)]⟩) (W.InitBack (h.objs.size + 1) R)
      ⟨(h.push (W.kdv_tup [])).push (excO C h.objs.size), g, d, t, os⟩) :
    codeAny (model prog w) A (.call (.ref C) ⟨[], [(y, v)]⟩) R ⟨h, g, d, t, os⟩ := by
  have f1 := tc_lookup
  have f2 := tc_bind (.ref C)
  have hTy : (⟨h, g, d, t, os⟩ : Shared).TypeIs (.ref C) "type" := ⟨_, hC, rfl⟩
  refine codeAny_of_tree ?_
  show wpAny _ _ (callAny (.ref C) _) _ _ _
  repeat (any_goals (first | assumption | with_reducible refine wpAny_loadPart_at hC ?_ | wp_step))
  refine ⟨rfl, ?_⟩
  refine codeAny_call_builtin_at (Code.quiet_builtin _ (by decide +kernel)) entry_typeCall (kw_check_type hC (kw_type_call F hT hC hi hb ?_))
  refine codeAny_mono hq fun r s' z => ?_
  rcases r with e | (v | _ | _ | _) <;> exact z
end
end
open PySem PySem.Spec PySem.W PySem.Calls PyProof.Rows PySem.HandSPX
section
variable {prog : Program} {w : World} {A : Around} {E : Value → Shared → Prop} {R : Result → Shared → Prop} {s : Shared} {K : Frag} {mg : Str → Option Value} {C fI : Addr} {y : Str}
theorem sx_madeK (T : XTxt K prog y C fI) {v : Value} (X : K.In s.heap) (G : s.heap.Ns mainGlobals mg) (B : ∃ mb, s.heap.Ns builtinsNs mb ∧ ∀ z : Str, z ≠ "__name__" → mb z = bootBuiltins z) (hlim : s.heap.NoLimit) (hroom : A.depth + 1 < recursionLimit)
    (hq : ∀ h' tk e d, Made s.heap h' e C d y v → R (.ok (.ret (.ref e))) { s with heap := h', toks := tk }) :
    codeAny (model prog w) A (.call (.ref C) ⟨[], [(y, v)]⟩) R s := by
  obtain ⟨nm, q, N, bs, bm, sn, sub, ab, col, dd, k0, k1, k2, k3, k5, hC, hbm, hal⟩ := T.cls
  obtain ⟨hp, g, dr, tk, os⟩ := s
  have k : ∀ b o, hp.get? b = some o → ((hp.push (kdv_tup [])).push (excO C hp.objs.size)).get? b = some o := fun b o e => Heap.get?_push_of_some _ (Heap.get?_push_of_some _ e)
  have hget : ((hp.push (kdv_tup [])).push (excO C hp.objs.size)).get? (hp.objs.size + 1) = some (excO C hp.objs.size) := by heap_get
  have hnx : K.lookup (hp.objs.size + 1) = none := by
    cases e : K.lookup (hp.objs.size + 1) with
    | none => rfl
    | some o =>
      have z : hp.get? (hp.objs.size + 1) = some o := X _ _ e
      exact absurd (Nat.lt_of_succ_lt (Heap.lt_size z)) (Nat.lt_irrefl _)
  obtain ⟨mb, hb1, hb2⟩ := B
  refine kw_call PySem.F.excBase_ValueError (fun X => refsVE_contains X bm hbm) (X _ _ hC) (looks_findIn X T.iC) (fun self => bind_fn X self T.tC) ?_
  refine sx_init (s := ⟨(hp.push (kdv_tup [])).push (excO C hp.objs.size), g, dr, tk, os⟩) T (X.keeps k) (G.keeps k) ⟨mb, hb1.keeps k, hb2⟩ (hlim.keeps k) hget hnx ?_ (.inr rfl) fun h' tk' dx t1 ⟨k', hx, dn, dne, hns⟩ => ?_
  · show A.depth + 1 < recursionLimit
    exact hroom
  · have old : ∀ b o, hp.get? b = some o → h'.get? b = some o := fun b o e => k' b o (Nat.ne_of_lt (Nat.lt_succ_of_lt (Heap.lt_size e))) (k b o e)
    have z : hp.objs.size + 1 + 1 ≤ dx := by
      have q := dn
      rw [Heap.size_push, Heap.size_push] at q
      exact q
    exact ⟨rfl, hq h' tk' (hp.objs.size + 1) dx ⟨old, Nat.le_succ _, ⟨t1, hx⟩, Nat.le_trans (Nat.le_trans (Nat.le_succ _) (Nat.le_succ _)) z, dne, hns⟩⟩
end
end Sx
namespace L2
open PySem PySem.Spec PyProof.Rows
section
variable {X : Cx} {C fI : Addr} {y x : Str}
/-- C(y = a) -/
theorem pe_sxk {a : Expr} {ta : TA} {p pos kpos : Pos} {k : Nat} (T : Sx.XTxt X.K X.prog y C fI) (hr : Room (k + 1) X.A) (hm : X.mg x = some (.ref C)) (hkw : PK X [⟨some y, a, kpos⟩] ta) (hg : Gl X x := by rfl)
    (hall : (backToKw pos (keywordEach [⟨some y, a, kpos⟩] X.env)).all (·.1.isSome) = true := by rfl) (hks : (backToKw pos (keywordEach [⟨some y, a, kpos⟩] X.env)).filterMap (·.1) = [y] := by rfl)
    (hpl : ((backTo pos (starEach [] X.env)).any (·.1) || (backToKw pos (keywordEach [⟨some y, a, kpos⟩] X.env)).any (·.1.isNone)) = false := by rfl) (hdb : (x == ("__debug__" : Str)) = false := by decide) :
    PE X (.Call (.Name x p) [] [⟨some y, a, kpos⟩] pos) (tMkX C y ta) := by
  refine ⟨fun pins s σ H Q I h => ?_⟩
  refine wpAny_Call_Name_kw (ld_glob I hg hm ?_ hdb)
  refine PySem.W.callWith_KW0 (h₀ := X.base) I.ok.mod.kin T.kC hall (thn (hkw.run pos pins s σ H _ I h) fun us s1 hh => ?_) hpl
  obtain ⟨vs, H1, I1, r1, v, ev, q1⟩ := hh
  subst ev
  refine ⟨I1.kIn, ?_⟩
  cases r1 with
  | cons rv rn =>
    rename_i v' us'
    cases rn
    rw [hks]
    show wpAny _ _ (call (.ref C) [] [(y, v')]) _ _ _
    have hlim := I1.nolimit
    obtain ⟨mb, h1, h2⟩ := I1.mod.blt
    have G := I1.mod.glob.keeps I1.bk
    have B := h1.keeps I1.bk
    have KI := I1.kIn
    obtain ⟨hp, g, dr, tk, os⟩ := s1
    refine wpAny_call (Sx.sx_madeK T KI G ⟨mb, B, h2⟩ hlim (by have := hr.dp; omega) fun h' tk' e d M => ?_)
    obtain ⟨J, e1, e2, e3⟩ := sx_laid (tk' := tk') I1 rv M
    exact ⟨.ref e, _, J, rfl, q1 e d e1 e2 e3⟩
end
end L2
/-! Reads and isinstance of a held exception; C() of a class without an own __init__. -/
namespace Sx
open PySem PySem.Spec PySem.W PySem.Calls PyProof.Rows
section
variable {prog : Program} {w : World} {A : Around} {E : Value → Shared → Prop} {s : Shared} {K : Frag} {x D : Addr} {ox : Obj} {od : Option Obj}
theorem found_class (T : L2.ExcC K D) : findObj K D od "__class__" = some (.bind (.builtin "getset_descriptor.__get__") (.builtin "object.__class__")) := by
  obtain ⟨cd, hc, _⟩ := any_some T.hd
  show (clsIn K D).bind _ = _
  simp [hc, T.ha, T.hn, T.ht]
/-- x.__class__ of a held exception, whatever its dict -/
theorem class_of_exc {Q : Option Value → Shared → Prop} (T : L2.ExcC K D) (X : K.In s.heap) (I : InstAt s.heap x ox D od) (h : Q (some (.ref D)) { s with toks := s.toks + 1 }) : wpAny (model prog w) A (getAttr? (.ref x) "__class__") Q E s := by
  obtain ⟨hp, g, d, t, os⟩ := s
  have ty := I.type (M := model prog w)
  have ga := looks_findIn (M := model prog w) X T.hg
  have gt := looks_findIn (M := model prog w) X T.hk
  have fi := looks_find (M := model prog w) X I (found_class (od := od) T)
  have sb : Looks (model prog w) hp (isInstance (.ref x) (.type "BaseException")) true := ty.andThen (looks_subIn X T.hs)
  have n0 : (Value.builtin "BaseException.__getattribute__" == Value.builtin "object.__getattribute__") = false := by decide +kernel
  unfold getAttr? getAttrBy? getAttrBy
  refine wpAny_bind (wpAny_mkText (wpAny_bind (wpAny_attempt (wpAny_holding (wpAny_bind (ty.at (wpAny_bind (ga.at ?_))))))))
  show wpAny _ _ (if (onTheHeap (Value.ref D) && Value.builtin "BaseException.__getattribute__" == Value.builtin "object.__getattribute__") = true then _ else _) _ _ _
  rw [n0, Bool.and_false, if_neg Bool.false_ne_true]
  unfold getAttrByItsOwn hookBefore
  refine wpAny_bind ?_
  rw [if_pos (show onTheHeap (Value.ref D) = true from rfl)]
  refine gt.at (wpAny_bind (wpAny_attempt (wpAny_holding ?_)))
  unfold callGetattribute
  rw [show (false && onTheHeap (Value.builtin "BaseException.__getattribute__")) = false from rfl, if_neg Bool.false_ne_true]
  unfold boundAndCalled
  rw [PySem.F.excAttr_ValueError.ga.bind (.ref x)]
  refine wpAny_bind (wpAny_pure ?_)
  show wpAny _ _ (call (.builtin "BaseException.__getattribute__") [.ref x, .str "__class__" t]) _ _ _
  refine wpAny_call (codeAny_call_builtin PySem.F.excAttr_ValueError.ga.plain PySem.F.entry_bexc_ga ?_)
  refine @check_slot (model prog w) _ _ ⟨hp, g, d, t + 1, os⟩ "BaseException.__getattribute__" "BaseException" "__getattribute__" (.ref x) [.str "__class__" t] [] _ (by decide +kernel) (by decide +kernel) sb (PySem.F.args_bexc_ga (.ref x) (.str "__class__" t)) ?_
  unfold Builtin.«object.__getattribute__»
  refine wpAny_bind (wpAny_of_eq (a := ((Value.ref x : Value), [Value.str "__class__" t])) (by first | rfl | (simp only [slotArgs]; rfl)) ?_)
  refine wpAny_bind (wpAny_pure (wpAny_bind (ty.at (wpAny_bind (fi.at ?_)))))
  show wpAny _ _ (holding [Value.builtin "object.__class__"] (call (.builtin "getset_descriptor.__get__") [.builtin "object.__class__", .ref x, .ref D]) >>= ret) _ _ _
  refine wpAny_bind (wpAny_holding (wpAny_call (class_get (s := ⟨hp, g, d, t + 1, os⟩) (ox := ox) (od := od) X I T.hm ?_)))
  refine wpAny_pure ?_
  show wpAny _ _ (handedOut (.ref D)) _ _ _
  rw [handedOut_of (v := .ref D) rfl]
  first
    | exact wpAny_pure (wpAny_pure h)
    | exact wpAny_pure h
    | exact wpAny_pure (wpAny_bind (wpAny_pure (wpAny_pure h)))
/-- what isinstance asks of a held exception -/
theorem kit_exc (T : L2.ExcC K D) : KitX K (.ref x) (.ref D) (fun h => InstAt h x ox D od) where
  ty := fun _ _ _ I => I.type
  it := fun M h X _ => by
    obtain ⟨cd, hc, _⟩ := any_some T.hd
    unfold clsIn at hc
    split at hc
    · rename_i ho
      intro A0 Q0 E0 s0 k q
      unfold isType loadHead
      exact wpAny_bind (wpAny_loadPart (k _ _ (X _ _ ho)) (wpAny_pure q))
    · cases hc
  ne := fun h tp dd its n sl X htp => (handS_kitx_exc (x := x) (ox := ox) T.hg T.hk T.hs T.hd T.ha T.hn T.ht T.hm).ne h tp dd its n sl X htp
  ca := fun X I k => class_of_exc T X I k
end
end Sx
namespace L2
open PySem PySem.Spec PyProof.Rows
section
variable {X : Cx} {pins : List (Addr × Obj)} {σ : St} {H : Hp} {s : Shared} {a C : Addr} {d : Option Addr}
theorem exo_inst (I : Inv X pins σ H s) (e : H a = some (exo a C none)) : ∃ ox, PySem.W.InstAt s.heap a ox C none := by
  obtain ⟨t1, h⟩ := exo_at I.hok e
  exact ⟨_, h, rfl, rfl, trivial⟩
theorem exo_inst1 {dd : Addr} {fs : List (Str × V)} (I : Inv X pins σ H s) (e : H a = some (exo a C (some dd))) (ed : H dd = some (.xd fs)) :
    ∃ ox od, PySem.W.InstAt s.heap a ox C (some od) ∧ ∀ n v, fs.lookup n = some v → ∃ u, PySem.W.lookIn n od = some (some u) ∧ RelV v u := by
  obtain ⟨t1, h⟩ := exo_at I.hok e
  obtain ⟨mA, hns, hr⟩ := (show ObjOk X.prog X.w H s.heap dd (.xd fs) from I.hok dd _ ed)
  obtain ⟨od, ho, hl⟩ := lookIn_ns hns
  refine ⟨_, od, ⟨h, rfl, rfl, ho⟩, fun n v q => ?_⟩
  obtain ⟨u, hu, ru⟩ := RelO.some_of (v := v) (o := mA n) (by rw [← q]; exact hr n)
  exact ⟨u, by rw [hl, hu], ru⟩
/-- e.f, e a held exception -/
def tXo (K : PySem.W.Frag) (f : Str) (te : TE) : TE := fun σ H Q => te σ H fun x H1 => ∃ (a C dd : Addr) (fs : List (Str × V)) (v : V), x = .ref a ∧ H1 a = some (exo a C (some dd)) ∧ H1 dd = some (.xd fs) ∧ XfC K C ∧ PySem.W.findIn K (.ref C) f = some none ∧ fs.lookup f = some v ∧ Q v H1
theorem pe_xo {e : Expr} {te : TE} {pos : Pos} {n : Str} (he : PE X e te) (hb : attributeBase e n X.env (eval e X.env) = eval e X.env := by rfl) : PE X (.Attribute e n pos) (tXo X.K n te) := by
  refine ⟨fun pins s σ H Q I h => ?_⟩
  refine attr_of hb (thn (he.run pins s σ H _ I h) fun u s1 hh => ?_)
  obtain ⟨x, H1, I1, rx, a, C, dd, fs, v, ex, ea, ed, T, hno, l, q⟩ := hh
  subst ex
  obtain rfl : u = Value.ref a := rx
  obtain ⟨ox, od, J, hv⟩ := exo_inst1 I1 ea ed
  obtain ⟨u, hu, ru⟩ := hv n v l
  exact HandSPX.exc_get I1.kIn J T.ga T.gg T.exC (PySem.W.findObj_own T.hdC hno rfl hu) (handed_of ru) ⟨v, H1, I1.tok _, ru, q⟩
/-- a value's type: held exceptions, too -/
inductive TyW (K : PySem.W.Frag) (H : Hp) : V → Value → Prop where
  | base {x : V} {t : Value} (h : TyX K H x t) : TyW K H x t
  | exc {a D : Addr} (T : ExcC K D) (e : H a = some (exo a D none)) : TyW K H (.ref a) (.ref D)
  | excd {a D dd : Addr} {fs : List (Str × V)} (T : ExcC K D) (e : H a = some (exo a D (some dd))) (ed : H dd = some (.xd fs)) : TyW K H (.ref a) (.ref D)
theorem kit_ofW {x : V} {u t : Value} (I : Inv X pins σ H s) (rx : RelV x u) (ty : TyW X.K H x t) : ∃ P : Heap → Prop, PySem.W.KitX X.K u t P ∧ P s.heap ∧ u ≠ .builtin "__main__.__loader__#opaque" := by
  cases ty with
  | base h => exact kit_of I rx h
  | @exc a D T e =>
    cases (show u = Value.ref a from rx)
    obtain ⟨ox, J⟩ := exo_inst I e
    exact ⟨_, Sx.kit_exc (od := none) T, J, fun z => nomatch z⟩
  | @excd a D dd fs T e ed =>
    cases (show u = Value.ref a from rx)
    obtain ⟨ox, od, J, _⟩ := exo_inst1 I e ed
    exact ⟨_, Sx.kit_exc (od := some od) T, J, fun z => nomatch z⟩
/-- isinstance(x, c), one class -/
def rIsW (K : PySem.W.Frag) : List V → Hp → VK → Prop := fun xs H Q => ∃ (x c : V) (t u : Value) (b : Bool), xs = [x, c] ∧ ClsV c u ∧ TyW K H x t ∧ PySem.W.kitOne K t u = some b ∧ Q (.bl b) H
/-- isinstance(x, (c, ..)), the tuple just laid -/
def rIsWT (K : PySem.W.Frag) : List V → Hp → VK → Prop := fun xs H Q => ∃ (x : V) (tp : Addr) (cs : List V) (t : Value) (us : List Value) (b : Bool), xs = [x, .ref tp] ∧ H tp = some (.tup cs) ∧ Paired ClsV cs us ∧ TyW K H x t ∧ PySem.W.kitAny K t us = some b ∧ Q (.bl b) H
theorem call_isW : CallR X (.builtin "isinstance") (rIsW X.K) := by
  intro pins s σ H xs us Q I r ⟨x, c, t, u, b, ex, k, ty, e, q⟩
  subst ex
  obtain ⟨u1, u2, rfl, r1, r2⟩ := vals2 r
  obtain rfl := k.eq r2
  obtain ⟨P, Z, p, hx⟩ := kit_ofW I r1 ty
  exact PySem.W.kia_one Z I.kIn p e hx fun tk => ⟨.bl b, H, I.tok tk, rfl, q⟩
theorem call_isWT : CallR X (.builtin "isinstance") (rIsWT X.K) := by
  intro pins s σ H xs us Q I r ⟨x, tp, cs, t, ws, b, ex, hT, k, ty, e, q⟩
  subst ex
  obtain ⟨u1, u2, rfl, r1, r2⟩ := vals2 r
  cases (show u2 = Value.ref tp from r2)
  obtain ⟨P, Z, p, hx⟩ := kit_ofW I r1 ty
  obtain ⟨_, its, rv, o, h1, h2, n, h3⟩ := (show ObjOk X.prog X.w H s.heap tp (.tup cs) from I.hok tp _ hT)
  obtain rfl := ClsV.all k rv
  obtain ⟨oc, od, dt, sl⟩ := o
  simp only at h2 h3
  subst h2 h3
  exact PySem.W.kia_tup Z I.kIn p h1 e hx fun tk => ⟨.bl b, H, I.tok tk, rfl, q⟩
/-- C(), C an own exception class without an own __init__ -/
theorem pe_mk0 {bmB : List Value} {B newId initId : String} {x : Str} {p pos : Pos} (F : ExcBaseFacts B newId initId bmB) (q : PySem.W.excIn X.K C bmB newId = true) (gC : X.mg x = some (.ref C)) (kC : PySem.W.keepIn X.K (.ref C) = true) (hg : Gl X x := by rfl)
    (hdb : (x == ("__debug__" : Str)) = false := by decide) :
    PE X (.Call (.Name x p) [] [] pos) (fun σ H Q => ∀ a, H a = none → Q (.ref a) (upd H a (exo a C none))) := by
  refine ⟨fun pins s σ H Q I h => ?_⟩
  refine wpAny_Call_Name_kw (ld_glob I hg gC ?_ hdb)
  refine PySem.W.callWith_K0 I.kIn kC ?_
  show wpAny _ _ (call (.ref C) []) _ _ _
  obtain ⟨bm, N, nm, qn, bs, hdct, sn, sub, ab, col, dd, k0, k1, k2, k3, k5, mN, hC, hN, hni, T⟩ := exc_obj I.kIn q
  refine wpAny_call_exc_subT F T hC hN hni (fun h' a hm => ?_) (Nat.zero_le _)
  have hn : H a = none := I.hok.gone hm.new
  obtain ⟨t, ht, _, _⟩ := hm.there
  exact ⟨.ref a, _, I.laidN hm.keeps hm.new hn (exo_ok ht), rfl, h a hn⟩
end
end L2
/-! for k, x in enumerate(t), t a tuple. -/
namespace Et
open PySem PySem.Spec PyProof.Rows
theorem meets_new {v : Value} {o : Obj} {H : Heap → Prop} (B : Begins v o H) : Meets (Builtin.«enumerate.__new__» ⟨[.type "enumerate", v], []⟩) (fun _ R s => H s.heap ∧
    R (.ok (.ret (.ref (s.heap.push o).objs.size))) { s with heap := (s.heap.push o).push { cls := .type "enumerate", data := .fields #[.none, .bool false, .ref s.heap.objs.size, rawInt 0, .none, .none] } }) :=
  .of_wp fun prog w A R s h => by
    obtain ⟨hp, g, d, tk, os⟩ := s; obtain ⟨h1, h⟩ := h
    have hsub := sub_enumerate
    have q1 : ∀ {A' : Around} {E : Value → Shared → Prop} {Q : Value → Shared → Prop}, Q (.ref hp.objs.size) ⟨hp.push o, g, d, tk, os⟩ → wpAny (model prog w) A' (pyIter v) Q E ⟨hp, g, d, tk, os⟩ :=
      fun q => B.iter prog w _ _ ⟨hp, g, d, tk, os⟩ _ h1 q
    wp_walk using q1
    refine wpAny_stack_any fun st => wpAny_pure ?_
    split
    · rename_i c _ _ _ _ _
      cases (c == Value.type "enumerate") <;> (wp_walk using q1; exact ⟨_, rfl, h⟩)
    · wp_walk using q1
      exact ⟨_, rfl, h⟩
theorem begins {prog : Program} {w : World} {A : Around} {E : Value → Shared → Prop} {s : Shared} {v : Value} {o : Obj} {H : Heap → Prop} {Q : Value → Shared → Prop} (B : Begins v o H) (h1 : H s.heap)
    (h : ∀ h', IsEnum h' (s.heap.objs.size + 1) s.heap.objs.size 0 .none → h'.get? s.heap.objs.size = some o → h'.objs.size = s.heap.objs.size + 2 → (∀ b o, s.heap.get? b = some o → h'.get? b = some o) → Q (.ref (s.heap.objs.size + 1)) { s with heap := h' }) :
    wpAny (model prog w) A (call (.type "enumerate") [v]) Q E s := by
  refine callType_new F.called_enumerate (by decide) (F.typeCall_enumerate_1 _) (F.newCall_enumerate_1 _) (fun obj => F.args_object_init_2 obj _) F.entry_enumerate_new (meets_new B) ⟨h1, ?_⟩
  have hz : (s.heap.push o).objs.size = s.heap.objs.size + 1 := Heap.size_push ..
  show _ ∧ _
  rw [hz]
  have he : IsEnum ((s.heap.push o).push { cls := .type "enumerate", data := .fields #[.none, .bool false, .ref s.heap.objs.size, rawInt 0, .none, .none] }) (s.heap.objs.size + 1) s.heap.objs.size 0 .none := by
    have q := Heap.get?_push_size (s.heap.push o) (o := { cls := .type "enumerate", data := .fields #[.none, .bool false, .ref s.heap.objs.size, rawInt 0, .none, .none] }) rfl
    rw [hz] at q
    exact q
  exact ⟨⟨_, he, rfl⟩, h _ he (Heap.get?_push_of_some _ (Heap.get?_push_size _ B.free)) (by rw [Heap.size_push, hz]) fun b o x => Heap.get?_push_of_some _ (Heap.get?_push_of_some _ x)⟩
end Et
namespace L2
open PySem PySem.Spec PyProof.Rows
/-- the tuple at a, each item in a new pair with its place -/
def ItEt (K : PySem.W.Frag) (a : Addr) : It :=
  ⟨fun i H => ∃ xs, SqT K H a xs ∧ i < xs.length, fun i H v H' => ∃ T x, v = .ref T ∧ H T = none ∧ H' = upd H T (.tup [.int (i : Nat), x]) ∧ ∀ xs, SqT K H a xs → xs[i]? = some x, fun i H => ∃ xs, SqT K H a xs ∧ xs.length = i⟩
theorem it_ne {h : Heap} {it a : Addr} {i : Nat} {its : Array Value} (p : h.IsTupleIter it a i) (q : h.IsTuple a its) : a ≠ it := by
  intro z
  obtain ⟨o, e, c, _⟩ := p
  obtain ⟨o', e', c', _⟩ := q
  rw [z, e] at e'
  cases e'
  rw [c] at c'
  exact absurd (Value.type.inj c') (by decide)
theorem turn_enumT {P : Program} {w : World} {K : PySem.W.Frag} {elts : List Expr} {kk : Nat} {tpos : Pos} (a e it : Addr) :
    Turn P w K (.Tuple elts kk tpos) (ItEt K a) [e, it] e (fun i h => (∃ old, IsEnum h e it ((i : Nat) : Int) old) ∧ h.IsTupleIter it a i ∧ e ≠ it) where
  mem := by simp
  obj := fun i h st b hb => by
    obtain ⟨⟨old, he⟩, ⟨o, ho, hc, hd⟩, _⟩ := st
    have e' : b = e ∨ b = it := by simpa using hb
    rcases e' with z | z
    · rw [z]; exact ⟨_, he, fun v q => nomatch q⟩
    · rw [z]; exact ⟨o, ho, fun v q => by rw [hd] at q; cases q⟩
  keep := fun i h h' st k => let ⟨⟨old, he⟩, hi, hne⟩ := st; ⟨⟨old, k e (by simp) _ he⟩, hi.at fun o q => k it (by simp) o q, hne⟩
  item := by
    intro X hP hw hK hc i pins s σ H E I hf st hg
    subst hP hw hK
    obtain ⟨⟨old, he⟩, hit, hne⟩ := st
    obtain ⟨xs, hq, hx⟩ := hg
    obtain ⟨its, rv, p, hz⟩ := I.tuple hq
    have ht : s.heap.IsTuple a its.toArray := p
    have na := it_ne hit ht
    have hel : e < s.heap.objs.size := Heap.lt_size he
    have hil : it < s.heap.objs.size := by obtain ⟨_, q, _⟩ := hit; exact Heap.lt_size q
    have hae : e ≠ a := fun z => by
      obtain ⟨o', e', c', _⟩ := ht
      rw [← z, he] at e'
      cases e'
      exact absurd (Value.type.inj c') (by decide)
    have hef : e ∉ [it, a] := by simp [hne, hae]
    have hn : its.length = xs.length := rv.length.symm
    refine wpAny_pyNext_enum_itemD (St := fun i h => h.IsTupleIter it a i ∧ h.IsTuple a its.toArray) (Draws.tuple (A := X.A.in1) (I.ok.hd hc) it a na its.toArray) he ⟨hit, ht⟩ (by simp; omega) hne hef fun x h' tk hp ho hst hT hsz hk => ?_
    refine ⟨_, rfl, wpAny_letOwnedTupleGo_enum (s := { s with heap := h', toks := tk + 1 }) ho fun h'' he' sb => ?_⟩
    have hp2 : its[i]? = some x := by simpa using hp
    obtain ⟨y, hy⟩ : ∃ y, xs[i]? = some y := ⟨xs[i], by simp [hx]⟩
    obtain ⟨u, hu, ry⟩ := rv.get hy
    rw [hp2] at hu
    cases hu
    have hT2 : h''.get? s.heap.objs.size = some { cls := .type "tuple", data := .seq #[.int i tk, x] } := (sb.2 _ (Nat.ne_of_gt hel)).trans hT
    have new : ObjOk X.prog X.w (upd H s.heap.objs.size (.tup [.int (i : Nat), y])) h'' s.heap.objs.size (.tup [.int (i : Nat), y]) :=
      ⟨by show 2 ≤ sizeLine; decide, [.int i tk, x], .cons ⟨_, rfl⟩ (.cons ry .nil), ⟨_, hT2, rfl, _, rfl⟩⟩
    have I1 : Inv X pins σ (upd H s.heap.objs.size (.tup [.int (i : Nat), y])) { s with heap := h'', toks := tk + 1 } :=
      I.turnedNew (ch := [e, it]) (fun b ob hb q => (sb.2 b (fun z => hb (by simp [z]))).trans (hk b ob (fun z => hb (by simp [z])) (fun z => hb (by simp [z])) q)) hf (Nat.le_refl _) new
    refine ⟨.ref s.heap.objs.size, _, I1, rfl, ⟨_, y, rfl, I.hok.fresh (Nat.le_refl _), rfl, fun ys hy' => by rw [I.tuple_inj hy' hq]; exact hy⟩, ⟨⟨x, ?_⟩, hst.1.at fun o q => (sb.2 it (Ne.symm hne)).trans q, hne⟩, fun b hb => ?_⟩
    · have e1 : ((i + 1 : Nat) : Int) = (i : Int) + 1 := by omega
      rw [e1]; exact he'
    · have hb' : b < s.heap.objs.size := by
        have e' : b = e ∨ b = it := by simpa using hb
        rcases e' with z | z <;> (rw [z]; assumption)
      rw [upd_ne (Nat.ne_of_lt hb')]
      exact (hf b hb).1
  done := by
    intro X hP hw hK hc i pins s σ H E I hf st hg
    subst hP hw hK
    obtain ⟨⟨old, he⟩, hit, hne⟩ := st
    obtain ⟨xs, hq, hx⟩ := hg
    obtain ⟨its, rv, p, hz⟩ := I.tuple hq
    have ht : s.heap.IsTuple a its.toArray := p
    obtain ⟨f0, f1, f2, f3, f4, f5⟩ := hf it (by simp)
    have hn : its.toArray.size = i := by have := rv.length; simp; omega
    refine wpAny_pyNext_enum_endD (St := fun i h => h.IsTupleIter it a i ∧ h.IsTuple a its.toArray) (Draws.tuple (A := X.A.in1) (I.ok.hd hc) it a (it_ne hit ht) its.toArray) he (by rw [hn]; exact ⟨hit, ht⟩) fun h' eb => ⟨rfl, I.turned (t' := s.toks) (fun b o hb q => eb b o hb q) f0 f1 f3 f4 f5⟩
  self := fun A i s Q E st h => let ⟨⟨_, he⟩, _⟩ := st; wpAny_pyIter_enum he h
def iEnumT (K : PySem.W.Frag) (ta : TA) : TI := fun σ H R => ta σ H fun vs H1 => ∃ a xs, vs = [.ref a] ∧ SqT K H1 a xs ∧ R (ItEt K a) H1
theorem pi_enumT {X : Cx} {e : Expr} {ta : TA} {p pos tpos : Pos} {elts : List Expr} {kk : Nat} (hg : Gl X "enumerate") (hm : X.mg "enumerate" = none) (ha : PA X [e] ta) (hs : starEach [e] X.env = [(false, eval e X.env)] := by rfl) :
    PI X (.Tuple elts kk tpos) (.Call (.Name "enumerate" p) [e] [] pos) (iEnumT X.K ta) := by
  refine ⟨fun pins s σ H R I h => ?_⟩
  refine Call_ (ld_blt I hg hm boot_enumerate (PyProof.Rows.callWith_type1 (thn (ha.run pos pins s σ H _ I h) fun us s1 ⟨vs, H1, I1, r1, q1⟩ => ?_) hs rfl))
  obtain ⟨a, xs, ex, hq, q⟩ := q1
  subst ex
  cases r1 with
  | cons r rr =>
    cases rr
    cases r
    obtain ⟨its, rv, p', hz⟩ := I1.tuple hq
    refine Et.begins (begins_tuple a its.toArray) p' fun h' he hit hsz hk => wpAny_pyIter_enum he ?_
    have I2 : Inv X pins σ H1 { s1 with heap := h' } := I1.kept (t' := s1.toks) hk
    refine ⟨s1.heap.objs.size + 1, [s1.heap.objs.size + 1, s1.heap.objs.size], _, _, H1, rfl, I2, turn_enumT a (s1.heap.objs.size + 1) s1.heap.objs.size, ⟨⟨.none, he⟩, ⟨_, hit, rfl, rfl⟩, Nat.succ_ne_self _⟩, fun b hb => ?_, q⟩
    have e' : b = s1.heap.objs.size + 1 ∨ b = s1.heap.objs.size := by simpa using hb
    have hle : s1.heap.objs.size ≤ b := by
      rcases e' with z | z
      · rw [z]; exact Nat.le_add_right _ _
      · rw [z]; exact Nat.le_refl _
    exact I1.fpOk hle (I1.hok.fresh hle)
end L2
/-! Operators by all the kinds that the laws use; rules of Ev for them; the heap but one object. -/
namespace L2
open PySem PySem.Spec PyProof.Rows
section
variable {X : Cx}
def rAddS : R2 := fun x y H Q => ∃ i j, x = .str i ∧ y = .str j ∧ i.length + j.length ≤ sizeLine ∧ Q (.str (i ++ j)) H
def rAddU (K : PySem.W.Frag) : R2 := fun x y H Q => rI0 (fun i j => .int (i + j)) x y H Q ∨ rCat x y H Q ∨ rCatA K x y H Q ∨ rAddS x y H Q
theorem uAdd (K : PySem.W.Frag) (hK : X.K = K := by rfl) : OpR X (binaryOp .Add) (rAddU K) := by
  subst hK
  exact OpR.or op_add (OpR.or op_cat (OpR.or op_catA op_add_str))
/-- a text over and over -/
def rMulS : R2 := fun x y H Q => ∃ z n, x = .str z ∧ y = .int n ∧ MulOk z n ∧ Q (.str (Txt.mul z n)) H
theorem op_mulS : OpR X (binaryOp .Mult) rMulS := by
  intro pins s σ H x y v u Q I rx ry h
  obtain ⟨z, n, rfl, rfl, hz, q⟩ := h
  obtain ⟨t, rfl⟩ := rx
  obtain ⟨t', rfl⟩ := ry
  exact SB.mul hz fun t' k => ⟨.str (Txt.mul z n), H, I.kept (t' := k) fun _ _ z => z, ⟨_, rfl⟩, q⟩
def rMulU : R2 := fun x y H Q => rI CMul (fun i j => .int (i * j)) x y H Q ∨ rRep x y H Q ∨ rMulS x y H Q
theorem uMul : OpR X (binaryOp .Mult) rMulU := OpR.or op_mul (OpR.or op_rep op_mulS)
/-! dicts of data compared -/
def DpK (K : PySem.W.Frag) (H : Hp) (ks : List (Key × V)) (ds : List (Key × PyData)) : Prop := Paired (fun (p : Key × V) (q : Key × PyData) => p.1 = q.1 ∧ Dp K H p.2 q.2 ∧ (SeqAt.shaped q.2 = true ∧ q.2.depth ≤ 60)) ks ds
def lkP (es : List (Key × PyData)) (k : Key) : Option PyData := (es.find? fun kv => decide (kv.1 = k)).map (·.2)
def hitP (es ds : List (Key × PyData)) : Bool := ds.all fun p => match lkP es p.1 with
  | some u => PyData.eqv p.2 u
  | none => false
theorem dpk_val {K : PySem.W.Frag} {H : Hp} {k : Key} : ∀ {ls : List (Key × V)} {es : List (Key × PyData)} {vb : List (Key × Value)}, DpK K H ls es → KV ls vb → match lkP es k with
    | none => valueAt vb k = none
    | some u => ∃ x y, valueAt vb k = some y ∧ RelV x y ∧ Dp K H x u ∧ (SeqAt.shaped u = true ∧ u.depth ≤ 60) := by
  intro ls es vb h
  unfold DpK at h
  induction h generalizing vb with
  | nil =>
    intro r
    cases r
    rfl
  | @cons p q ps qs h t ih =>
    intro r
    cases r with
    | @cons _ v _ vs r1 r2 =>
      obtain ⟨k1, x⟩ := p
      obtain ⟨k2, d⟩ := q
      obtain ⟨k3, y⟩ := v
      obtain ⟨e1, h1, h2⟩ := h
      obtain ⟨e2, r1⟩ := r1
      have e1 : k1 = k2 := e1
      have e2 : k1 = k3 := e2
      subst e1 e2
      by_cases e : k1 = k
      · have q1 : lkP ((k1, d) :: qs) k = some d := by simp [lkP, List.find?_cons, e]
        rw [q1]
        exact ⟨x, y, by simp [valueAt, List.find?_cons, e], r1, h1, h2⟩
      · have q1 : lkP ((k1, d) :: qs) k = lkP qs k := by simp [lkP, List.find?_cons, e]
        have q2 : valueAt ((k1, y) :: vs) k = valueAt vs k := by simp [valueAt, List.find?_cons, e]
        rw [q1, q2]
        exact ih r2
theorem dpk_hits {pins : List (Addr × Obj)} {σ : St} {H : Hp} {s : Shared} (I : Inv X pins σ H s) {A : Around} (hu : A.units + 61 < cLine) {ls : List (Key × V)} {es : List (Key × PyData)} {vb : List (Key × Value)} (hl : DpK X.K H ls es) (rb : KV ls vb) :
    ∀ {ks : List (Key × V)} {ds : List (Key × PyData)} {va : List (Key × Value)}, DpK X.K H ks ds → KV ks va → PySem.W.KeqHits A s vb va (hitP es ds) := by
  intro ks ds va h
  unfold DpK at h
  induction h generalizing va with
  | nil =>
    intro r
    cases r
    exact .nil
  | @cons p q ps qs h t ih =>
    intro r
    cases r with
    | @cons _ v _ vs r1 r2 =>
      obtain ⟨k1, x⟩ := p
      obtain ⟨k2, d⟩ := q
      obtain ⟨k3, y⟩ := v
      obtain ⟨e1, h1, h2⟩ := h
      obtain ⟨e2, r1⟩ := r1
      have e1 : k1 = k2 := e1
      have e2 : k1 = k3 := e2
      subst e1 e2
      have z := dpk_val (k := k1) hl rb
      have eh : hitP es ((k1, d) :: qs) = ((match lkP es k1 with
        | some u => PyData.eqv d u
        | none => false) && hitP es qs) := rfl
      rw [eh]
      cases e : lkP es k1 with
      | none =>
        rw [e] at z
        exact .miss z
      | some u =>
        rw [e] at z
        obtain ⟨x', y', z1, z2, z3, z4⟩ := z
        obtain ⟨as, ra⟩ := Dp.reads I d x y h1 r1
        obtain ⟨bs, rb'⟩ := Dp.reads I u x' y' z3 z2
        refine .hit z1 (SeqAt.eqAt_reads d u A s y y' as bs ra rb' (SeqAt.canLay_of_shaped h2.1) (SeqAt.canLay_of_shaped z4.1) ?_) (ih r2)
        have := h2.2
        have := Nat.min_le_left d.depth u.depth
        omega
def rEqK (K : PySem.W.Frag) : R2 := fun x y H Q => ∃ a b ks ls ds es, x = .ref a ∧ y = .ref b ∧ Rd H a (.dK ks) ∧ Rd H b (.dK ls) ∧ DpK K H ks ds ∧ DpK K H ls es ∧ Q (.bl (ks.length == ls.length && hitP es ds)) H
def rNeK (K : PySem.W.Frag) : R2 := fun x y H Q => ∃ a b ks ls ds es, x = .ref a ∧ y = .ref b ∧ Rd H a (.dK ks) ∧ Rd H b (.dK ls) ∧ DpK K H ks ds ∧ DpK K H ls es ∧ Q (.bl (!(ks.length == ls.length && hitP es ds))) H
theorem op_eqK (hu : X.A.units + 64 < cLine) : OpR X (compareOp .Eq) (rEqK X.K) := by
  intro pins s σ H x y v u Q I rx ry h
  obtain ⟨a, b, ks, ls, ds, es, rfl, rfl, ha, hb, hd, he, q⟩ := h
  obtain rfl : v = Value.ref a := rx
  obtain rfl : u = Value.ref b := ry
  obtain ⟨_, ya, va, ra, da⟩ := dk_rd I.hok ha
  obtain ⟨_, yb, vb, rb, db⟩ := dk_rd I.hok hb
  refine PySem.W.keq_eq (knd := mixKind X.prog X.w) (r := hitP es ds) ya yb da db (by omega) (fun _ => dpk_hits I (by show X.A.units + 1 + 61 < cLine; omega) he rb hd ra) (fin_bl I q ?_)
  rw [ra.length, rb.length]
theorem op_neK (hu : X.A.units + 64 < cLine) : OpR X (compareOp .NotEq) (rNeK X.K) := by
  intro pins s σ H x y v u Q I rx ry h
  obtain ⟨a, b, ks, ls, ds, es, rfl, rfl, ha, hb, hd, he, q⟩ := h
  obtain rfl : v = Value.ref a := rx
  obtain rfl : u = Value.ref b := ry
  obtain ⟨_, ya, va, ra, da⟩ := dk_rd I.hok ha
  obtain ⟨_, yb, vb, rb, db⟩ := dk_rd I.hok hb
  refine PySem.W.keq_ne (knd := mixKind X.prog X.w) (r := hitP es ds) ya yb da db (by omega) (fun _ => dpk_hits I (by show X.A.units + 1 + 61 < cLine; omega) he rb hd ra) (fin_bl I q ?_)
  rw [ra.length, rb.length]
def rEqU (K : PySem.W.Frag) : R2 := fun x y H Q => rEq x y H Q ∨ rEqV K x y H Q ∨ rEqD K x y H Q ∨ rEqK K x y H Q
theorem uEq (K : PySem.W.Frag) (hu : X.A.units + 64 < cLine) (hK : X.K = K := by rfl) : OpR X (compareOp .Eq) (rEqU K) := by
  subst hK
  exact OpR.or op_eq (OpR.or (op_eqV hu) (OpR.or (op_eqD hu) (op_eqK hu)))
def rNeU (K : PySem.W.Frag) : R2 := fun x y H Q => rNe x y H Q ∨ rNeD K x y H Q ∨ rNeK K x y H Q
theorem uNe (K : PySem.W.Frag) (hu : X.A.units + 64 < cLine) (hK : X.K = K := by rfl) : OpR X (compareOp .NotEq) (rNeU K) := by
  subst hK
  exact OpR.or op_ne (OpR.or (op_neD hu) (op_neK hu))
theorem uIn (K : PySem.W.Frag) (hK : X.K = K := by rfl) : OpR X (compareOp .In) (rIn K false) := by
  subst hK
  exact op_in_seq
theorem uNotIn (K : PySem.W.Frag) (hK : X.K = K := by rfl) : OpR X (compareOp .NotIn) (rIn K true) := by
  subst hK
  exact op_notIn_seq
theorem uIx (K : PySem.W.Frag) (hK : X.K = K := by rfl) : IxR X (rIx K) := by
  subst hK
  exact ix_seq
theorem uSl (K : PySem.W.Frag) (hK : X.K = K := by rfl) : SlR X (rSlL K) := by
  subst hK
  exact sl_list
theorem hu64 {k : Nat} {A : Around} (hr : Room k A) : A.units + 64 < cLine := by have := hr.un; omega
theorem u_len (K : PySem.W.Frag) (hK : X.K = K := by rfl) : CallR X (.builtin "len") (Evl.rLenS K) := by
  subst hK
  exact call_len_seq
def rIntU : List V → Hp → VK → Prop := fun xs H Q => (∃ i, xs = [.int i] ∧ Q (.int i) H) ∨ ∃ k, xs = [.bl k] ∧ Q (.int (if k then 1 else 0)) H
theorem uC_int : CallR X (.type "int") rIntU := call_int1
def rIsU (K : PySem.W.Frag) : List V → Hp → VK → Prop := fun xs H Q => rIsW K xs H Q ∨ rIsWT K xs H Q
theorem u_isinstance (K : PySem.W.Frag) (hK : X.K = K := by rfl) : CallR X (.builtin "isinstance") (rIsU K) := by
  subst hK
  exact CallR.or call_isW call_isWT
end
end L2
namespace Evl
open PySem L2
section
variable {K : PySem.W.Frag} {H : Hp} {ta tb : TE} {σ : L2.St} {x y z : V}
theorem RV.l {r r' : R2} (h : RV r x y H z) : RV (fun x y H Q => r x y H Q ∨ r' x y H Q) x y H z := fun H1 e Q q => .inl (h H1 e Q q)
theorem RV.r {r r' : R2} (h : RV r' x y H z) : RV (fun x y H Q => r x y H Q ∨ r' x y H Q) x y H z := fun H1 e Q q => .inr (h H1 e Q q)
theorem RC.l {r r' : List V → Hp → VK → Prop} {vs : List V} (h : RC r vs H z) : RC (fun x H Q => r x H Q ∨ r' x H Q) vs H z := fun H1 e Q q => .inl (h H1 e Q q)
theorem RC.r {r r' : List V → Hp → VK → Prop} {vs : List V} (h : RC r' vs H z) : RC (fun x H Q => r x H Q ∨ r' x H Q) vs H z := fun H1 e Q q => .inr (h H1 e Q q)
theorem ev_add {i j : Int} (ha : Ev ta σ H (.int i)) (hb : Ev tb σ H (.int j)) : Ev (tOp (rAddU K) ta tb) σ H (.int (i + j)) := ev_op ha hb (RV.l (rv_I0 (g := fun i j => .int (i + j))))
theorem ev_sub {i j : Int} (ha : Ev ta σ H (.int i)) (hb : Ev tb σ H (.int j)) : Ev (tOp (rI0 fun i j => .int (i - j)) ta tb) σ H (.int (i - j)) := ev_op ha hb (rv_I0 (g := fun i j => .int (i - j)))
theorem ev_mul {i j : Int} (ha : Ev ta σ H (.int i)) (hb : Ev tb σ H (.int j)) (hc : CMul i j) : Ev (tOp rMulU ta tb) σ H (.int (i * j)) := ev_op ha hb (RV.l (rv_I (g := fun i j => .int (i * j)) hc))
theorem ev_fdiv {i j : Int} (ha : Ev ta σ H (.int i)) (hb : Ev tb σ H (.int j)) (hc : CDivN i j) : Ev (tOp (rI CDivN fun i j => .int (i.fdiv j)) ta tb) σ H (.int (i.fdiv j)) := ev_op ha hb (rv_I (g := fun i j => .int (i.fdiv j)) hc)
theorem ev_mod {i j : Int} (ha : Ev ta σ H (.int i)) (hb : Ev tb σ H (.int j)) (hc : j ≠ 0) : Ev (tOp (rI (fun _ j => j ≠ 0) fun i j => .int (i.fmod j)) ta tb) σ H (.int (i.fmod j)) := ev_op ha hb (rv_I (C := fun _ j => j ≠ 0) (g := fun i j => .int (i.fmod j)) hc)
theorem ev_pow {i j : Int} (ha : Ev ta σ H (.int i)) (hb : Ev tb σ H (.int j)) (hc : CPow i j) : Ev (tOp (rI CPow fun i j => .int (i ^ j.toNat)) ta tb) σ H (.int (i ^ j.toNat)) := ev_op ha hb (rv_I (g := fun i j => .int (i ^ j.toNat)) hc)
theorem ev_lt {i j : Int} (ha : Ev ta σ H (.int i)) (hb : Ev tb σ H (.int j)) : Ev (tOp (rI0 fun i j => .bl (decide (i < j))) ta tb) σ H (.bl (decide (i < j))) := ev_op ha hb (rv_I0 (g := fun i j => .bl (decide (i < j))))
theorem ev_ge {i j : Int} (ha : Ev ta σ H (.int i)) (hb : Ev tb σ H (.int j)) : Ev (tOp (rI0 fun i j => .bl (decide (j ≤ i))) ta tb) σ H (.bl (decide (j ≤ i))) := ev_op ha hb (rv_I0 (g := fun i j => .bl (decide (j ≤ i))))
theorem ev_gt {i j : Int} (ha : Ev ta σ H (.int i)) (hb : Ev tb σ H (.int j)) : Ev (tOp (rI0 fun i j => .bl (decide (j < i))) ta tb) σ H (.bl (decide (j < i))) := ev_op ha hb (rv_I0 (g := fun i j => .bl (decide (j < i))))
theorem ev_le {i j : Int} (ha : Ev ta σ H (.int i)) (hb : Ev tb σ H (.int j)) : Ev (tOp (rI0 fun i j => .bl (decide (i ≤ j))) ta tb) σ H (.bl (decide (i ≤ j))) := ev_op ha hb (rv_I0 (g := fun i j => .bl (decide (i ≤ j))))
theorem ev_eq (ha : Ev ta σ H x) (hb : Ev tb σ H y) (h : scal x y = true) : Ev (tOp (rEqU K) ta tb) σ H (.bl (decide (x = y))) := ev_op ha hb (RV.l (rv_eq h))
theorem ev_eqV (ha : Ev ta σ H x) (hb : Ev tb σ H y) (h : ∀ H1, Ex H H1 → ∃ n, n ≤ 60 ∧ EqR K H1 (EqV K H1 n) x y) : Ev (tOp (rEqU K) ta tb) σ H (.bl true) := ev_op ha hb fun H1 e Q q => by
  obtain ⟨n, hn, he⟩ := h H1 e
  exact .inr (.inl ⟨n, hn, he, q H1 (Ex.refl H1)⟩)
theorem ev_ne (ha : Ev ta σ H x) (hb : Ev tb σ H y) (h : scal x y = true) : Ev (tOp (rNeU K) ta tb) σ H (.bl (!decide (x = y))) := ev_op ha hb (RV.l (rv_ne h))
theorem ev_lenT {p : Addr} {xs : List V} (ha : Ev ta σ H (.ref p)) (h : SqT K H p xs) : Ev (tCB (rLenS K) (tCons ta tNil)) σ H (.int (xs.length : Int)) := ev_cb (ea_cons ha ea_nil) fun H1 e Q q => ⟨p, xs, rfl, .inr (ex_t e h), q H1 (Ex.refl H1)⟩
theorem ev_int {i : Int} (ha : Ev ta σ H (.int i)) : Ev (tCB rIntU (tCons ta tNil)) σ H (.int i) := ev_cb (ea_cons ha ea_nil) fun H1 _ Q q => .inl ⟨i, rfl, q H1 (Ex.refl H1)⟩
/-- xs[i] of a list -/
theorem ev_ixL {p : Addr} {xs : List V} {i : Int} {v : V} (ha : Ev ta σ H (.ref p)) (hb : Ev tb σ H (.int i)) (h : SqL K H p xs) (hi : atI xs i = some v) : Ev (tOp (rIx K) ta tb) σ H v :=
  ev_op ha hb fun H1 e Q q => .inl (rv_ixL h hi H1 e Q q)
end
end Evl
namespace Evl
open PySem L2
section
variable {K : PySem.W.Frag} {H H1 H2 : Hp} {ta tb te : TE} {σ : L2.St} {x y z v w : V} {D : Ends} {tz tu : TS}
/-! ### the heap but one object -/
/-- all is kept but what stands at s -/
def Xs (s : Addr) (H H' : Hp) : Prop := ∀ a o, a ≠ s → H a = some o → H' a = some o
theorem Xs.refl {s : Addr} : Xs s H H := fun _ _ _ h => h
theorem Xs.trans {s : Addr} (a : Xs s H H1) (b : Xs s H1 H2) : Xs s H H2 := fun x o n h => b x o n (a x o n h)
theorem Ex.xs {s : Addr} (e : Ex H H1) : Xs s H H1 := fun a o _ h => e a o h
theorem Xs.at_ {s : Addr} {o : HO} : Xs s H (upd H s o) := fun a u n h => by
  rw [upd_ne n]
  exact h
theorem Xs.sqL {s c : Addr} {xs : List V} (e : Xs s H H1) (n : c ≠ s) (h : SqL K H c xs) : SqL K H1 c xs := by
  rcases h with (h | ⟨o, h⟩) | h
  · exact .inl (.inl (e c _ n h))
  · exact .inl (.inr ⟨o, e c _ n h⟩)
  · exact .inr h
theorem Xs.sqT {s c : Addr} {xs : List V} (e : Xs s H H1) (n : c ≠ s) (h : SqT K H c xs) : SqT K H1 c xs := by
  rcases h with (h | ⟨o, h⟩) | h
  · exact .inl (.inl (e c _ n h))
  · exact .inl (.inr ⟨o, e c _ n h⟩)
  · exact .inr h
theorem Xs.none {s p : Addr} (e : Xs s H H1) (n : p ≠ s) (h : H1 p = none) : H p = none := by
  cases h1 : H p with
  | none => rfl
  | some o =>
    rw [e p o n h1] at h
    cases h
/-! ### the state of the draws: [cells, nth, left, mixed] at s -/
structure St4 (K : PySem.W.Frag) (H : Hp) (s c : Addr) (ns : List Int) (n l : Int) (m : Bool) : Prop where
  ne : c ≠ s
  cs : SqL K H c (ns.map V.int)
  len : ns.length ≤ 63
  st : H s = some (.lst [.ref c, .int n, .int l, .bl m])
variable {s c : Addr} {ns : List Int} {n l : Int} {m : Bool}
theorem St4.ex (S : St4 K H s c ns n l m) (e : Ex H H1) : St4 K H1 s c ns n l m := ⟨S.ne, ex_l e S.cs, S.len, e _ _ S.st⟩
theorem St4.put {n' l' : Int} {m' : Bool} (S : St4 K H s c ns n l m) : St4 K (upd H s (.lst [.ref c, .int n', .int l', .bl m'])) s c ns n' l' m' :=
  ⟨S.ne, Xs.at_.sqL S.ne S.cs, S.len, upd_same⟩
theorem St4.g0 (S : St4 K H s c ns n l m) (h0 : σ[0]? = some (some (.ref s))) : Ev (tOp (rIx K) (tVar 0) (tC (.int 0))) σ H (.ref c) := ev_ixL (ev_var h0) ev_c (sq_of S.st) rfl
theorem St4.g1 (S : St4 K H s c ns n l m) (h0 : σ[0]? = some (some (.ref s))) : Ev (tOp (rIx K) (tVar 0) (tC (.int 1))) σ H (.int n) := ev_ixL (ev_var h0) ev_c (sq_of S.st) rfl
theorem St4.g2 (S : St4 K H s c ns n l m) (h0 : σ[0]? = some (some (.ref s))) : Ev (tOp (rIx K) (tVar 0) (tC (.int 2))) σ H (.int l) := ev_ixL (ev_var h0) ev_c (sq_of S.st) rfl
theorem St4.g3 (S : St4 K H s c ns n l m) (h0 : σ[0]? = some (some (.ref s))) : Ev (tOp (rIx K) (tVar 0) (tC (.int 3))) σ H (.bl m) := ev_ixL (ev_var h0) ev_c (sq_of S.st) rfl
theorem St4.p1 (S : St4 K H s c ns n l m) (h0 : σ[0]? = some (some (.ref s))) {k : Int} (h : Ev te σ H (.int k)) (q : ∀ H1, Xs s H H1 → St4 K H1 s c ns k l m → D.nx σ H1) :
    tAsg te (gSub (tVar 0) (tC (.int 1)) rSetL) D σ H := s_setL (j := 1) S.st h (ev_var h0) ev_c (by simp) fun H1 e => q _ ((Ex.xs e).trans Xs.at_) (S.ex e).put
theorem St4.p2 (S : St4 K H s c ns n l m) (h0 : σ[0]? = some (some (.ref s))) {k : Int} (h : Ev te σ H (.int k)) (q : ∀ H1, Xs s H H1 → St4 K H1 s c ns n k m → D.nx σ H1) :
    tAsg te (gSub (tVar 0) (tC (.int 2)) rSetL) D σ H := s_setL (j := 2) S.st h (ev_var h0) ev_c (by simp) fun H1 e => q _ ((Ex.xs e).trans Xs.at_) (S.ex e).put
theorem St4.p3 (S : St4 K H s c ns n l m) (h0 : σ[0]? = some (some (.ref s))) {k : Bool} (h : Ev te σ H (.bl k)) (q : ∀ H1, Xs s H H1 → St4 K H1 s c ns n l k → D.nx σ H1) :
    tAsg te (gSub (tVar 0) (tC (.int 3)) rSetL) D σ H := s_setL (j := 3) S.st h (ev_var h0) ev_c (by simp) fun H1 e => q _ ((Ex.xs e).trans Xs.at_) (S.ex e).put
/-! ### statements -/
theorem q_par {i j : Nat} {ta : TA} (h : EvA ta σ H [v, w]) (k : ∀ H1, Ex H H1 → tz D ((σ.set i (some v)).set j (some w)) H1) : tSeq (tPar i j ta) tz D σ H :=
  h H (Ex.refl H) _ fun H1 e => ⟨v, w, rfl, k H1 e⟩
theorem q_st {t : TS} (h : t { D with nx := tz D } σ H) : tSeq t tz D σ H := h
theorem walk_enumT {a : Addr} {xs : List V} : Walk (ItEt K a) xs.length (fun H => SqT K H a xs) (fun i H v H' => ∃ T x, v = .ref T ∧ H T = none ∧ H' = upd H T (.tup [.int (i : Nat), x]) ∧ xs[i]? = some x) where
  goes := fun i H hi h => ⟨xs, h, hi⟩
  stops := fun H h => ⟨xs, h, rfl⟩
  yields := fun i H x H' hi h ⟨T, y, e1, e2, e3, e4⟩ => ⟨T, y, e1, e2, e3, e4 xs h⟩
theorem g_pair {i j : Nat} {T : Addr} {Q : L2.St → Hp → Prop} (h : H T = some (.tup [v, w])) (q : Q ((σ.set i (some v)).set j (some w)) H) : gTup K 2 (gCons (gName i) (gCons (gName j) gNil)) (.ref T) σ H Q :=
  ⟨T, [v, w], rfl, st_of h, rfl, v, [w], rfl, w, [], rfl, rfl, q⟩
/-- for i, j in enumerate((x, ..)), the tuple new -/
theorem s_forET {ta : TA} {i j : Nat} {xs : List V} (h : EvA ta σ H xs) (hx : xs.length ≤ 100000) (Pv : Addr → Nat → L2.St → Hp → Prop) (h0 : ∀ p H1, H p = none → Ex H H1 → H1 p = some (.tup xs) → Pv p 0 σ H1) (hP : ∀ p k σ' H', k ≤ xs.length → Pv p k σ' H' → SqT K H' p xs)
    (hs : ∀ p (k : Nat) x σ' H', xs[k]? = some x → Pv p k σ' H' → ∀ H2, Ex H' H2 → tu { D with nx := Pv p (k + 1), ct := Pv p (k + 1), bk := D.nx } ((σ'.set i (some (.int (k : Int)))).set j (some x)) H2) (hd : ∀ p σ' H', Pv p xs.length σ' H' → D.nx σ' H') :
    tFor (iEnumT K (tCons (tTup ta) tNil)) (gTup K 2 (gCons (gName i) (gCons (gName j) gNil))) tu D σ H := by
  unfold tFor iEnumT tCons
  exact (eu_tup h hx) H (Ex.refl H) _ fun p H1 hp e h1 => ⟨p, xs, rfl, st_of h1, for_it walk_enumT (Pv p) (h0 p H1 hp e h1) (fun k σ' H' hk pv => hP p k σ' H' hk pv) (fun k x σ' H' H2 hk pv ⟨T, y, e1, e2, e3, e4⟩ => by
    subst e1 e3
    exact g_pair upd_same (hs p k y σ' H' e4 pv _ (Ex.new e2))) (hd p)⟩
end
end Evl
namespace Evl
open PySem L2
section
variable {K : PySem.W.Frag} {H H1 H2 : Hp} {ta tb te : TE} {σ : L2.St} {x y z v w : V} {D : Ends} {tz tu : TS}
/-! ### types of values, and isinstance -/
inductive Kn (K : PySem.W.Frag) (H : Hp) : V → String → Prop where
  | non : Kn K H .non "NoneType"
  | bl (b : Bool) : Kn K H (.bl b) "bool"
  | int (i : Int) : Kn K H (.int i) "int"
  | str (x : Str) : Kn K H (.str x) "str"
  | lst {a : Addr} {xs : List V} (h : SqL K H a xs) : Kn K H (.ref a) "list"
  | tup {a : Addr} {xs : List V} (h : SqT K H a xs) : Kn K H (.ref a) "tuple"
  | dK {a : Addr} {kvs : List (Key × V)} (h : H a = some (.dK kvs)) : Kn K H (.ref a) "dict"
theorem Kn.ex {t : String} (k : Kn K H x t) (e : Ex H H1) : Kn K H1 x t := by
  cases k with
  | non => exact .non
  | bl b => exact .bl b
  | int i => exact .int i
  | str x => exact .str x
  | lst h => exact .lst (ex_l e h)
  | tup h => exact .tup (ex_t e h)
  | dK h => exact .dK (e _ _ h)
theorem Kn.ty {t : String} (k : Kn K H x t) : TyX K H x (.type t) := by
  cases k with
  | non => exact .base .non
  | bl b => exact .base (.bl b)
  | int i => exact .base (.int i)
  | str x => exact .base (.str x)
  | lst h =>
    rcases h with (h | ⟨o, h⟩) | ⟨o, its, n, hk, hc, _⟩
    · exact .base (.lst h)
    · exact .base (.frz h)
    · exact .kList hk hc
  | tup h =>
    rcases h with (h | ⟨o, h⟩) | ⟨o, its, n, hk, hc, _⟩
    · exact .base (.tup h)
    · exact .fTuple h
    · exact .kTuple hk hc
  | dK h => exact .base (.dK h)
/-- isinstance(x, n), a built-in type -/
theorem ev_is1 {t n : String} {b : Bool} (ha : Ev ta σ H x) (k : Kn K H x t) (h : kitB t n = some b) : Ev (tCB (rIsU K) (tCons ta (tCons (tC (.ty n)) tNil))) σ H (.bl b) :=
  ev_cb (ea_cons ha (ea_cons ev_c ea_nil)) fun H1 e Q q => .inl ⟨x, .ty n, .type t, .type n, b, rfl, .ty n, .base (k.ex e).ty, kit_ty h, q H1 (Ex.refl H1)⟩
def kitBs (t : String) : List String → Option Bool
  | [] => some false
  | c :: r => match kitB t c with
    | some true => some true
    | some false => kitBs t r
    | none => none
theorem kitBs_ok {t : String} : ∀ {ns : List String} {b : Bool}, kitBs t ns = some b → PySem.W.kitAny K (.type t) (ns.map Value.type) = some b
  | [], b, h => h
  | c :: r, b, h => by
    have e : PySem.W.kitOne K (.type t) (.type c) = kitB t c := rfl
    show (match PySem.W.kitOne K (.type t) (.type c) with | some true => some true | some false => PySem.W.kitAny K (.type t) (r.map Value.type) | none => none) = some b
    rw [e]
    unfold kitBs at h
    split at h
    · exact h
    · exact kitBs_ok h
    · cases h
theorem clsv_tys : ∀ ns : List String, Paired ClsV (ns.map V.ty) (ns.map Value.type)
  | [] => .nil
  | n :: r => .cons (.ty n) (clsv_tys r)
/-- isinstance(x, (n, ..)) -/
theorem ev_isT {tb : TA} {t : String} {b : Bool} (ns : List String) (ha : Ev ta σ H x) (hb : EvA tb σ H (ns.map V.ty)) (hl : ns.length ≤ 100000) (k : Kn K H x t) (h : kitBs t ns = some b) : Ev (tCB (rIsU K) (tCons ta (tCons (tTup tb) tNil))) σ H (.bl b) := fun H1 e1 Q q =>
  ha H1 e1 _ fun H2 e2 => (eu_tup hb (by rw [List.length_map]; exact hl)) H2 (e1.trans e2) _ fun p H3 hp e3 h3 =>
    .inr ⟨x, p, _, .type t, _, b, rfl, h3, clsv_tys ns, .base (k.ex ((e1.trans e2).trans e3)).ty, kitBs_ok h, q H3 (e2.trans e3)⟩
/-! ### all over a new list of bools -/
theorem ev_all {bs : List Bool} {te : TE} (h : EvL te σ H (bs.map V.bl)) : Ev (tCB (rAll K) (tCons te tNil)) σ H (.bl (bs.all id)) := fun H1 e1 Q q =>
  h H1 e1 _ fun p H2 hp e2 h2 => ⟨p, bs, rfl, sq_of h2, q H2 e2⟩
theorem given_all (n : Nat) (v : Nat → V) : given n (fun _ => true) v = (List.range n).map v := by
  unfold given
  rw [List.filter_eq_self.mpr fun _ _ => rfl]
/-! ### zip of two sequences -/
theorem walk_zipT {a b : Addr} {xs ys : List V} (hl : xs.length = ys.length) : Walk (RZ.ItzT K a b) xs.length (fun H => SqT K H a xs ∧ SqT K H b ys) (YPair (fun i => xs[i]?) (fun i => ys[i]?)) where
  goes := fun i H hi ⟨h1, h2⟩ => ⟨xs, ys, xs[i], ys[i]'(hl ▸ hi), h1, h2, by simp [hi], by simp [hl ▸ hi]⟩
  stops := fun H ⟨h1, h2⟩ => ⟨xs, ys, h1, h2, .inl (Nat.le_refl _)⟩
  yields := fun i H x H' hi ⟨h1, h2⟩ ⟨T, y, z, e1, e2, e3, e4, e5⟩ => ⟨T, y, z, e1, e2, e3, e4 xs h1, e5 ys h2⟩
/-- [v for i, j in zip(a, b)] -/
theorem el_zip {tl : TA} {a b : Addr} {xs ys : List V} {i j : Nat} {vs : List Nat} (v : Nat → V) (h : EvA tl σ H [.ref a, .ref b]) (hx : (SqL K H a xs ∧ SqL K H b ys) ∨ (SqT K H a xs ∧ SqT K H b ys)) (hl : xs.length = ys.length) (hz : xs.length ≤ 40000)
    (hw : ∀ x y, wipe (((wipe σ vs).set i (some x)).set j (some y)) vs = wipe σ vs) (he : ∀ (k : Nat) (x y : V) H1, Ex H H1 → xs[k]? = some x → ys[k]? = some y → Ev te (((wipe σ vs).set i (some x)).set j (some y)) H1 (v k)) :
    EvL (tLc (RZ.iZipA K tl) (gTup K 2 (gCons (gName i) (gCons (gName j) gNil))) tYes te vs) σ H ((List.range xs.length).map v) := fun H0 e0 Q q => h H0 e0 _ fun H1 e1 => by
  have step : ∀ (Dl : Addr) (k : Nat) (x : V) (Ha Hb : Hp), k < xs.length → Cw H1 (fun _ => true) v Dl k Ha → YPair (fun i => xs[i]?) (fun i => ys[i]?) k Ha x Hb → gTup K 2 (gCons (gName i) (gCons (gName j) gNil)) x (wipe σ vs) Hb fun σ2 H2 => wipe σ2 vs = wipe σ vs ∧ tYes σ2 H2 fun b H3 =>
      if b = true then te σ2 H3 fun y H4 => ∃ acc, H4 Dl = some (.lst acc) ∧ acc.length < sizeLine ∧ Cw H1 (fun _ => true) v Dl (k + 1) (upd H4 Dl (.lst (acc ++ [y]))) else Cw H1 (fun _ => true) v Dl (k + 1) H3 := by
    intro Dl k x Ha Hb hk p ⟨T, y, z, e1', e2', e3', e4, e5⟩
    subst e1' e3'
    have p2 : Cw H1 (fun _ => true) v Dl k (upd Ha T (.tup [y, z])) := ⟨p.1, p.2.1.trans (Ex.new e2'), (Ex.new e2') _ _ p.2.2⟩
    exact g_pair upd_same ⟨hw y z, cw_turn p2 (by omega) (fun H3 _ Q q => q H3 (Ex.refl H3)) fun _ => he k y z H1 (e0.trans e1) e4 e5⟩
  rcases hx with ⟨h1, h2⟩ | ⟨h1, h2⟩
  · exact ⟨a, b, xs, ys, rfl, .inl ⟨ex_l (e0.trans e1) h1, ex_l (e0.trans e1) h2, fun Dl hD => lc_it (walk_zip (by omega)) (Cw H1 (fun _ => true) v Dl) ⟨hD, Ex.new hD, upd_same⟩ (fun k H' _ p => ⟨ex_l ((e0.trans e1).trans p.2.1) h1, ex_l ((e0.trans e1).trans p.2.1) h2⟩)
      (fun k x Ha Hb hk p y => step Dl k x Ha Hb hk p y) fun H' p => q Dl H' (fresh_back e1 p.1) (e1.trans p.2.1) (given_all _ v ▸ p.2.2)⟩⟩
  · exact ⟨a, b, xs, ys, rfl, .inr ⟨ex_t (e0.trans e1) h1, ex_t (e0.trans e1) h2, fun Dl hD => lc_it (walk_zipT hl) (Cw H1 (fun _ => true) v Dl) ⟨hD, Ex.new hD, upd_same⟩ (fun k H' _ p => ⟨ex_t ((e0.trans e1).trans p.2.1) h1, ex_t ((e0.trans e1).trans p.2.1) h2⟩)
      (fun k x Ha Hb hk p y => step Dl k x Ha Hb hk p y) fun H' p => q Dl H' (fresh_back e1 p.1) (e1.trans p.2.1) (given_all _ v ▸ p.2.2)⟩⟩
end
end Evl
/-! the head's facts of exception classes -/
namespace Lw
open PySem PySem.Spec PyProof.Rows L2
abbrev veM : List Value := [.type "ValueError", .type "Exception", .type "BaseException", .type "object"]
abbrev ExV : Type := Option (Str × Str × Arguments × FuncBody × Scope × Addr × List Str × Value × Value × Addr)
def exAt (K : PySem.W.Frag) (f : Addr) : ExV := match K.lookup f with
  | some ⟨_, _, .func fd, _⟩ => some (fd.name, fd.qualname, fd.params, fd.body, fd.scope, fd.globals, fd.closure.map (·.1), fd.defaults, fd.kwdefaults, fd.builtins)
  | _ => none
def exOf (qual : Str) (st : Stmt) : ExV := some ("__init__", qual, defArgs st, .stmts (defBody st), defScope st, mainGlobals, ["__class__"], .none, .none, builtinsNs)
def clsB (K : PySem.W.Frag) (C : Addr) : Bool := match K.lookup C with
  | some ⟨.type "type", _, .cls cd, sl⟩ => (match cd.mro, sl.toList with
    | .ref C' :: bm, [_, _, _, _, some (.builtin n), _] => C' == C && (n == "ValueError.__new__" && (!cd.hasDel && (cd.hasDict && (HandSPX.refsVE bm && He.eqO (PySem.W.alongIn K "__init__" bm) (some (some (.builtin "ValueError.__init__")))))))
    | _, _ => false)
  | _ => false
theorem clsB_ok {K : PySem.W.Frag} {C : Addr} (h : clsB K C = true) : ∃ nm q N bs bm sn sub ab col dd k0 k1 k2 k3 k5, K.lookup C = some (excClassObj nm q C N bs bm true sn sub ab col dd k0 k1 k2 k3 k5 "ValueError.__new__") ∧ HandSPX.refsVE bm = true ∧ PySem.W.alongIn K "__init__" bm = some (some (.builtin "ValueError.__init__")) := by
  unfold clsB at h
  split at h
  · rename_i dd cd sl ho
    split at h
    · rename_i C' bm k0 k1 k2 k3 n k5 hm hs
      obtain ⟨h1, h⟩ := He.ba h
      obtain ⟨h2, h⟩ := He.ba h
      obtain ⟨h3, h⟩ := He.ba h
      obtain ⟨h4, h⟩ := He.ba h
      obtain ⟨h5, h6⟩ := He.ba h
      obtain rfl := beq_iff_eq.mp h1
      obtain rfl := beq_iff_eq.mp h2
      obtain ⟨nm, bs, mro, ns, qn, hd, sn, sub, ab, col, del⟩ := cd
      dsimp only at hm h3 h4
      subst hm h4
      have h3' : del = false := by simpa using h3
      subst h3'
      have hsl : sl = #[k0, k1, k2, k3, some (.builtin "ValueError.__new__"), k5] := by
        obtain ⟨l⟩ := sl
        simp only at hs
        rw [hs]
      subst hsl
      exact ⟨nm, qn, ns, bs, bm, sn, sub, ab, col, dd, k0, k1, k2, k3, k5, ho, h5, He.eqO_ok h6⟩
    · cases h
  · cases h
def cellB (K : PySem.W.Frag) (C f : Addr) (qual file : Str) : Bool := match K.lookup f with
  | some ⟨_, _, .func fd, _⟩ => (match fd.closure, fd.code with
    | [(_, cc)], .ref cda => (match K.lookup cc with
      | some ⟨_, _, .cell (some (.ref C')), _⟩ => C' == C
      | _ => false) && (PySem.W.codeIn K (.ref cda) qual && (match K.lookup cda with
        | some ⟨_, _, .fields vs, _⟩ => (match (vs[2]? : Option Value) with
          | some (.str z _) => file == z
          | _ => false)
        | _ => false))
    | _, _ => false)
  | _ => false
def excB (K : PySem.W.Frag) (D : Addr) : Bool := He.eqO (PySem.W.findIn K (.ref D) "__getattribute__") (some (some (.builtin "BaseException.__getattribute__"))) && (He.eqO (PySem.W.findIn K (.ref D) "__getattr__") (some none) && (decide (PySem.W.subIn K (.ref D) (.type "BaseException") = some true) && (PySem.W.hasDictIn K D &&
  (He.eqO (PySem.W.findIn K (.ref D) "__class__") (some (some (.builtin "object.__class__"))) && (He.eqO (PySem.W.specialIn K (.builtin "object.__class__") "__get__") (some (some (.builtin "getset_descriptor.__get__"))) && (decide (PySem.W.takesIn K (.builtin "object.__class__") = some true) && decide (PySem.W.mroIn K D (.type "object") = some true)))))))
theorem excB_ok {K : PySem.W.Frag} {D : Addr} (h : excB K D = true) : ExcC K D ∧ XfC K D := by
  obtain ⟨h1, h⟩ := He.ba h
  obtain ⟨h2, h⟩ := He.ba h
  obtain ⟨h3, h⟩ := He.ba h
  obtain ⟨h4, h⟩ := He.ba h
  obtain ⟨h5, h⟩ := He.ba h
  obtain ⟨h6, h⟩ := He.ba h
  obtain ⟨h7, h8⟩ := He.ba h
  exact ⟨⟨He.eqO_ok h1, He.eqO_ok h2, of_decide_eq_true h3, h4, He.eqO_ok h5, He.eqO_ok h6, of_decide_eq_true h7, of_decide_eq_true h8⟩, ⟨He.eqO_ok h1, He.eqO_ok h2, of_decide_eq_true h3, h4⟩⟩
def xB (K : PySem.W.Frag) (C f : Addr) (y qual file : Str) : Bool := clsB K C && (He.eqO (PySem.W.findIn K (.ref C) "__setattr__") (some (some (.builtin "object.__setattr__"))) && (He.eqO (PySem.W.findIn K (.ref C) y) (some none) && (He.eqO (PySem.W.findIn K (.ref C) "__init__") (some (some (.ref f))) &&
  (decide (PySem.W.typeIn K (.ref f) = some (.type "function")) && (PySem.W.keepIn K (.ref C) && (He.eqO (PySem.W.nsIn K cStatics "thirdparty.any") (some none) && (He.eqO (PySem.W.nsIn K mainGlobals "super") (some none) && cellB K C f qual file)))))))
theorem xB_ok {K : PySem.W.Frag} {prog : Program} {C f : Addr} {y qual : Str} {st : Stmt} {p1 p2 q1 q2 q3 q4 q5 q6 q7 q8 q9 q10 : Pos} (h : xB K C f y qual prog.main.file = true) (e : exAt K f = exOf qual st) (yo : Sx.YOk y) (top : (prog.main.scope.names.lookup ("super" : Str)).isSome = false)
    (ea : defArgs st = Sx.iArgs y p1 p2) (eb : defBody st = [Sx.iSup y q1 q2 q3 q4 q5 q6, Sx.iSet y q7 q8 q9 q10]) (es : defScope st = Sx.iScope y) (hp : (q3.endLine == q5.line) = true) : Sx.XTxt K prog y C f := by
  obtain ⟨h1, h⟩ := He.ba h
  obtain ⟨h2, h⟩ := He.ba h
  obtain ⟨h3, h⟩ := He.ba h
  obtain ⟨h4, h⟩ := He.ba h
  obtain ⟨h5, h⟩ := He.ba h
  obtain ⟨h6, h⟩ := He.ba h
  obtain ⟨h7, h⟩ := He.ba h
  obtain ⟨h8, h9⟩ := He.ba h
  refine ⟨clsB_ok h1, He.eqO_ok h2, He.eqO_ok h3, He.eqO_ok h4, of_decide_eq_true h5, h6, He.eqO_ok h7, He.eqO_ok h8, yo, top, ?_⟩
  unfold exAt at e
  unfold cellB at h9
  cases q : K.lookup f with
  | none => rw [q] at e; cases e
  | some o =>
    obtain ⟨oc, od, dt, osl⟩ := o
    rw [q] at e h9
    cases dt with
    | func fd =>
      obtain ⟨n1, n2, n3, n4, n5, n6, n7, n8, n9, n10, n11, n12, n13, n14, n15⟩ := fd
      have e2 : (some (n1, n2, n3, n4, n5, n6, n7.map (·.1), n8, n9, n15) : ExV) = exOf qual st := e
      unfold exOf at e2
      simp only [Option.some.injEq, Prod.mk.injEq] at e2
      obtain ⟨g1, g2, g3, g4, g5, g6, g7, g8, g9, g10⟩ := e2
      subst g1 g2 g3 g4 g5 g6 g8 g9 g10
      dsimp only at h9
      split at h9
      · rename_i nm0 cc cda
        simp only [List.map_cons, List.map_nil, List.cons.injEq, and_true] at g7
        subst g7
        obtain ⟨k1, k2⟩ := He.ba h9
        obtain ⟨k2, k3⟩ := He.ba k2
        refine ⟨oc, od, n2, n10, n11, n12, cda, cc, n14, osl, p1, p2, q1, q2, q3, q4, q5, q6, q7, q8, q9, q10, by rw [ea, eb, es], k2, ?_, hp, ?_⟩
        · split at k3
          · rename_i hl
            split at k3
            · rename_i z tf hv
              exact ⟨_, _, _, _, _, _, hl, hv, k3⟩
            · cases k3
          · cases k3
        · split at k1
          · rename_i hl
            obtain rfl := beq_iff_eq.mp k1
            exact ⟨_, _, _, hl⟩
          · cases k1
      · cases h9
    | _ => cases e
/-! ### the Hook -/
abbrev AlX : Type := He.AlD × Bool × List ExV
/-- the objects reached in n steps, each once: the seen ones as bits -/
def bfsL (g : Addr → Option Obj) : List Addr → Nat → List Addr → List Addr → Nat × List Addr × List Addr
  | [], m, acc, nx => (m, acc, nx)
  | a :: r, m, acc, nx => match Nat.testBit m a with
    | true => bfsL g r m acc nx
    | false => match g a with
      | some o => bfsL g r (Nat.lor m (Nat.shiftLeft 1 a)) (a :: acc) (He.refsD o ++ nx)
      | none => bfsL g r m acc nx
def bfs (g : Addr → Option Obj) : Nat → Nat → List Addr → List Addr → List Addr
  | 0, _, acc, _ => acc
  | n + 1, m, acc, todo => match bfsL g todo m acc [] with
    | (m', acc', nx) => bfs g n m' acc' nx
def asX (g : Addr → Option Obj) (n : Nat) : List Addr := cStatics :: (bfs g (n + 1) 0 [] [mainGlobals]).reverse
def obsX (fa : List He.Fa) (fn : List He.DefD) (xb : PySem.W.Frag → Bool) (xs : List Str) (K : PySem.W.Frag) : AlX := (He.obsD fa fn K, xb K, xs.map fun x => exAt K (He.ma K (He.ga K x) "__init__"))
def valX (fn : List He.DefD) (vs : List ExV) : AlX := (He.valD fn, true, vs)
def obsXG (n : Nat) (fa : List He.Fa) (fn : List He.DefD) (xb : PySem.W.Frag → Bool) (xs : List Str) (g : Addr → Option Obj) : AlX := obsX fa fn xb xs (He.frG g (asX g n))
def hookX (n : Nat) (fa : List He.Fa) (fn : List He.DefD) (xb : PySem.W.Frag → Bool) (xs : List Str) (vs : List ExV) : PySem.W.Hook where
  α := AlX
  obs := fun s => obsXG n fa fn xb xs s.heap.get?
  val := fun _ => valX fn vs
  says := fun _ h => ∃ K : PySem.W.Frag, K.In h ∧ obsX fa fn xb xs K = valX fn vs
  of := fun _ _ e => ⟨_, He.frG_in, e⟩
  keeps := fun _ _ _ ⟨K, hK, c⟩ k => ⟨K, PySem.W.Frag.In.keeps hK k, c⟩
theorem obsXG_eq {n : Nat} {fa : List He.Fa} {fn : List He.DefD} {xb : PySem.W.Frag → Bool} {xs : List Str} {vs : List ExV} {g : Addr → Option Obj} {s : Shared} (h : ∀ a, g a = s.heap.get? a) : obsXG n fa fn xb xs g = (hookX n fa fn xb xs vs).obs s := by
  have e : g = s.heap.get? := funext h
  rw [e] <;> rfl
end Lw
/-! Dicts whose keys are tuples of ints, texts and tuples of these: the keys, the object. -/
namespace Nk
open PySem PySem.Spec PyProof.Rows L2
/-- an item of a key: an int or a text, or a tuple of such -/
abbrev KI := Sum Key (List Key)
/-- a key -/
abbrev K2 := List KI
/-- a dict of such keys, as it stands: each key with the place of its tuple -/
def DN (hs : K2 → Int) (a : Addr) (xs : List (K2 × Addr × V)) : HO := .ext fun h => (a == sysModules) = false ∧ xs.length ≤ sizeLine ∧ (xs.map (·.1)).Nodup ∧
  ∃ (o : Obj) (es : Array DictEntry) (ep : Nat), h.get? a = some o ∧ o.ExactDict ∧ o.data = .dict es ep ∧ Paired (fun (p : K2 × Addr × V) (e : DictEntry) => e.hash = hs p.1 ∧ e.key = .ref p.2.1 ∧ RelV p.2.2 e.val) xs es.toList
theorem heap_of : ∀ n : Nat, ∃ h : Heap, h.objs.size = n
  | 0 => ⟨{}, rfl⟩
  | n + 1 => by
    obtain ⟨h, e⟩ := heap_of n
    exact ⟨h.push { cls := .none, data := .fields #[] }, by rw [Heap.size_push, e]⟩
theorem dn_ne {hs : K2 → Int} {a : Addr} {xs : List (K2 × Addr × V)} {q : Str} : DN hs a xs ≠ LamX.CodeO a q := fun e => by
  have e := HO.ext.inj e
  obtain ⟨h, hz⟩ := heap_of a
  have hg : (h.push { cls := .none, data := .fields #[.none, .str q 0] }).get? a = some { cls := .none, data := .fields #[.none, .str q 0] } := by
    rw [← hz]
    exact Heap.get?_push_size _ rfl
  have hc : (fun h : Heap => ∃ (oc : Obj) (vs : Array Value) (t : Tok), h.get? a = some oc ∧ oc.data = .fields vs ∧ vs[1]? = some (.str q t)) (h.push { cls := .none, data := .fields #[.none, .str q 0] }) := ⟨_, _, 0, hg, rfl, rfl⟩
  rw [← e] at hc
  obtain ⟨_, _, _, o, es, ep, h1, _, h2, _⟩ := hc
  rw [hg] at h1
  cases h1
  cases h2
end Nk
/-! Data trees over the heap, and what a reading does to slots that hold trees: heaps and places are not spoken of above this layer. -/
namespace Wv
open PySem L2 Evl
/-- data: what a value is, in full depth; st: the state of the draws -/
inductive Dt where
  | non | bl (b : Bool) | int (i : Int) | str (x : Str) | lst (xs : List Dt) | tup (xs : List Dt) | dct (kvs : List (Key × Dt)) | ins (C : Addr) (fs : List (Str × Dt)) | st | dtn (hs : Nk.K2 → Int) (kvs : List (Nk.K2 × Dt))
abbrev Zz : Nat := 20000
/-- a key's tree -/
def kyD : Key → Dt
  | .inl i => .int i
  | .inr x => .str x
def kiD : Nk.KI → Dt
  | .inl k => kyD k
  | .inr l => .tup (l.map kyD)
def k2D (k : Nk.K2) : Dt := .tup (k.map kiD)
/-- the value x at H is the tree d; no object of it stands at an address of O -/
inductive Rv (so : Option Addr) (O : Addr → Prop) (H : Hp) : V → Dt → Prop where
  | non : Rv so O H .non .non
  | bl (b : Bool) : Rv so O H (.bl b) (.bl b)
  | int (i : Int) : Rv so O H (.int i) (.int i)
  | str {x : Str} (h : x.length ≤ Zz) : Rv so O H (.str x) (.str x)
  | lst {a : Addr} {xs : List V} {ds : List Dt} (ho : ¬ O a) (h : H a = some (.lst xs)) (hl : xs.length = ds.length) (hz : ds.length ≤ Zz) (he : ∀ (i : Nat) x d, xs[i]? = some x → ds[i]? = some d → Rv so O H x d) : Rv so O H (.ref a) (.lst ds)
  | tup {a : Addr} {xs : List V} {ds : List Dt} (ho : ¬ O a) (h : H a = some (.tup xs)) (hl : xs.length = ds.length) (hz : ds.length ≤ Zz) (he : ∀ (i : Nat) x d, xs[i]? = some x → ds[i]? = some d → Rv so O H x d) : Rv so O H (.ref a) (.tup ds)
  | dct {a : Addr} {kvs : List (Key × V)} {ds : List (Key × Dt)} (ho : ¬ O a) (h : Rd H a (.dK kvs)) (hk : kvs.map (·.1) = ds.map (·.1)) (hz : ds.length ≤ Zz) (he : ∀ (i : Nat) k x k' d, kvs[i]? = some (k, x) → ds[i]? = some (k', d) → Rv so O H x d) : Rv so O H (.ref a) (.dct ds)
  | ins {a dx C : Addr} {fs : List (Str × V)} {ds : List (Str × Dt)} (ho : ¬ O a) (h : H a = some (.ins C dx fs)) (hk : fs.map (·.1) = ds.map (·.1)) (he : ∀ (i : Nat) k x k' d, fs[i]? = some (k, x) → ds[i]? = some (k', d) → Rv so O H x d) : Rv so O H (.ref a) (.ins C ds)
  | st {a : Addr} (h : so = some a) : Rv so O H (.ref a) .st
  | dtn {a : Addr} {hs : Nk.K2 → Int} {xs : List (Nk.K2 × Addr × V)} {ds : List (Nk.K2 × Dt)} (ho : ¬ O a) (h : H a = some (Nk.DN hs a xs)) (hk : xs.map (·.1) = ds.map (·.1)) (hz : ds.length ≤ Zz)
    (hb : ∀ (i : Nat) k b x, xs[i]? = some (k, b, x) → Rv so O H (.ref b) (k2D k)) (he : ∀ (i : Nat) k b x k' d, xs[i]? = some (k, b, x) → ds[i]? = some (k', d) → Rv so O H x d) : Rv so O H (.ref a) (.dtn hs ds)
/-- all is kept but at O; a dict that A does not hold may be locked behind it -/
def Ko (O A : Addr → Prop) (H H' : Hp) : Prop := (∀ a o, ¬ O a → H a = some o → H' a = some o ∨ ¬ A a ∧ ∃ kvs od, o = .dK kvs ∧ H' a = some (.frz od (.dK kvs))) ∧ ∀ a, H a ≠ none → H' a ≠ none
section
variable {so : Option Addr} {O O' A A' : Addr → Prop} {H H1 H2 H' : Hp} {x y v : V} {d e : Dt} {p a : Addr} {o : HO}
theorem Ko.refl : Ko O A H H := ⟨fun _ _ _ h => .inl h, fun _ h => h⟩
theorem Ko.trans (a : Ko O A H H1) (b : Ko O A H1 H2) : Ko O A H H2 := by
  refine ⟨fun x o n h => ?_, fun x h => b.2 x (a.2 x h)⟩
  rcases a.1 x o n h with h2 | ⟨z, kvs, od, rfl, h2⟩
  · exact b.1 x o n h2
  · rcases b.1 x _ n h2 with h3 | ⟨_, kvs', od', q, _⟩
    · exact .inr ⟨z, kvs, od, rfl, h3⟩
    · cases q
theorem Ko.mono (k : Ko O A H H') (h : ∀ a, O a → O' a) (hA : ∀ a, A' a → A a) : Ko O' A' H H' := ⟨fun a o n e => (k.1 a o (fun z => n (h a z)) e).imp id fun z => ⟨fun q => z.1 (hA a q), z.2⟩, k.2⟩
theorem ex_some (e : Ex H H') {a : Addr} (h : H a ≠ none) : H' a ≠ none := by
  cases q : H a with
  | none => exact absurd q h
  | some o => rw [e a o q]; exact fun z => nomatch z
theorem Ko.ex (e : Ex H H') : Ko O A H H' := ⟨fun a o _ h => .inl (e a o h), fun a h => ex_some e h⟩
theorem Ko.back (k : Ko O A H H') {a : Addr} (h : H' a = none) : H a = none := by
  cases q : H a with
  | none => rfl
  | some o => exact absurd h (k.2 a (by rw [q]; exact fun z => nomatch z))
theorem Ko.new (h : H p = none) : Ko O A H (upd H p o) := Ko.ex (Ex.new h)
theorem upd_some {a : Addr} (h : H a ≠ none) : upd H p o a ≠ none := by
  by_cases e : a = p
  · rw [e, upd_same]; exact fun z => nomatch z
  · rw [upd_ne e]; exact h
theorem Ko.mut (h : O p) : Ko O A H (upd H p o) := ⟨fun a u n e => by
  rw [upd_ne fun z => n (by rw [z]; exact h)]
  exact .inl e, fun a h => upd_some h⟩
/-- what A holds is kept as it is -/
theorem Ko.same (k : Ko O A H H') (h1 : ¬ O a) (h2 : A a) (h : H a ≠ none) : H' a = H a := by
  cases q : H a with
  | none => exact absurd q h
  | some u =>
    rcases k.1 a u h1 q with z | ⟨z, _⟩
    · exact z
    · exact absurd h2 z
theorem Rd.keep (k : Ko O A H H') (ho : ¬ O a) (h : Rd H a o) : Rd H' a o := by
  rcases h with h | ⟨u, h⟩
  · rcases k.1 a _ ho h with z | ⟨_, kvs, od, rfl, z⟩
    · exact .inl z
    · exact .inr ⟨od, z⟩
  · rcases k.1 a _ ho h with z | ⟨_, kvs, od, q, z⟩
    · exact .inr ⟨u, z⟩
    · cases q
theorem Ko.keep1 (k : Ko O A H H') (ho : ¬ O a) (h : H a = some o) (n : ∀ kvs, o ≠ .dK kvs) : H' a = some o := by
  rcases k.1 a o ho h with z | ⟨_, kvs, od, q, z⟩
  · exact z
  · exact absurd q (n kvs)
theorem Rv.keep (r : Rv so O H x d) (k : Ko O A H H') : Rv so O H' x d := by
  induction r with
  | non => exact .non
  | bl b => exact .bl b
  | int i => exact .int i
  | str h => exact .str h
  | lst ho h hl hz he ih => exact .lst ho (k.keep1 ho h fun _ z => nomatch z) hl hz ih
  | tup ho h hl hz he ih => exact .tup ho (k.keep1 ho h fun _ z => nomatch z) hl hz ih
  | dct ho h hk hz he ih => exact .dct ho (Rd.keep k ho h) hk hz ih
  | @ins _ dx C fs ds ho h hk he ih =>
    refine .ins (dx := dx) ho ?_ hk ih
    rcases k.1 _ _ ho h with z | ⟨_, kvs, od, q, z⟩
    · exact z
    · cases q
  | st h => exact .st h
  | dtn ho h hk hz hb he ihb ih => exact .dtn ho (k.keep1 ho h fun _ z => nomatch z) hk hz ihb ih
theorem Rv.ex (r : Rv so O H x d) (e : Ex H H') : Rv so O H' x d := r.keep (Ko.ex (A := O) e)
theorem Rv.mono (r : Rv so O H x d) (h : ∀ a, O' a → O a) : Rv so O' H x d := by
  induction r with
  | non => exact .non
  | bl b => exact .bl b
  | int i => exact .int i
  | str h => exact .str h
  | lst ho h1 hl hz he ih => exact .lst (fun z => ho (h _ z)) h1 hl hz ih
  | tup ho h1 hl hz he ih => exact .tup (fun z => ho (h _ z)) h1 hl hz ih
  | dct ho h1 hk hz he ih => exact .dct (fun z => ho (h _ z)) h1 hk hz ih
  | ins ho h1 hk he ih => exact .ins (fun z => ho (h _ z)) h1 hk ih
  | st h => exact .st h
  | dtn ho h1 hk hz hb he ihb ih => exact .dtn (fun z => ho (h _ z)) h1 hk hz ihb ih
theorem Rd.some (h : Rd H a o) : H a ≠ none := by
  rcases h with h | ⟨u, h⟩ <;> rw [h] <;> exact fun z => nomatch z
/-- what stands nowhere at H is in no tree -/
theorem Rv.avoid (r : Rv so O H x d) (h : ∀ a, O' a → O a ∨ H a = none) : Rv so O' H x d := by
  have nn : ∀ {a : Addr} {o : HO}, ¬ O a → Rd H a o → ¬ O' a := fun {a o} ho hr z => (h a z).elim ho (Rd.some hr)
  induction r with
  | non => exact .non
  | bl b => exact .bl b
  | int i => exact .int i
  | str h => exact .str h
  | lst ho h1 hl hz he ih => exact .lst (nn ho (.inl h1)) h1 hl hz ih
  | tup ho h1 hl hz he ih => exact .tup (nn ho (.inl h1)) h1 hl hz ih
  | dct ho h1 hk hz he ih => exact .dct (nn ho h1) h1 hk hz ih
  | ins ho h1 hk he ih => exact .ins (nn ho (.inl h1)) h1 hk ih
  | st h => exact .st h
  | dtn ho h1 hk hz hb he ihb ih => exact .dtn (nn ho (.inl h1)) h1 hk hz ihb ih
def scl : Dt → Bool
  | .lst _ => false | .tup _ => false | .dct _ => false | .ins _ _ => false | .dtn _ _ => false | _ => true
theorem Rv.scal (r : Rv so O H x d) (hs : scl d = true) : Rv so O' H' x d := by
  cases r with
  | non => exact .non
  | bl b => exact .bl b
  | int i => exact .int i
  | str h => exact .str h
  | st h => exact .st h
  | _ => cases hs
end
/-- the state of the draws stands, its cells at cc -/
structure Ct where
  cc : Addr
  T : List (Addr × Str)
/-- what may change in any def: the state of the draws, the tables of code objects -/
def Chg (so : Option Addr) (cc : Ct) (a : Addr) : Prop := so = some a ∨ ∃ q, (a, q) ∈ cc.T
def St0 (K : PySem.W.Frag) (so : Option Addr) (cc : Addr) (H : Hp) : Prop := match so with
  | none => True
  | some s => ∃ ns n l m, St4 K H s cc ns n l m
def Stt (K : PySem.W.Frag) (so : Option Addr) (cc : Ct) (H : Hp) : Prop := St0 K so cc.cc H ∧ LamX.Tabs cc.T H
/-- an object that may be changed: no table, nothing told by its words alone -/
def Pl (H : Hp) (p : Addr) : Prop := ∃ o, H p = some o ∧ (∀ q, o ≠ .tbl q) ∧ ∀ q, o ≠ LamX.CodeO p q
/-- a slot: nothing known; a tree; a list or dict of the def's own that may change -/
inductive Sl where
  | no | v (d : Dt) | own (d : Dt)
/-- the surroundings of a body: the heap at its entry, the state of the draws and its cells, the addresses that its trees avoid -/
structure Cc where
  B : Hp
  so : Option Addr
  cc : Ct
  O : Addr → Prop
  lk : Bool
  lb : Bool
/-- one address more to avoid -/
def Cc.add (c : Cc) (p : Addr) : Cc := { c with O := fun a => c.O a ∨ a = p }
def Ow (σ : L2.St) (env : List Sl) (a : Addr) : Prop := ∃ (i : Nat) (d : Dt), env[i]? = some (Sl.own d) ∧ σ[i]? = some (some (V.ref a))
/-- what trees avoid -/
def Av (c : Cc) (σ : L2.St) (env : List Sl) (a : Addr) : Prop := c.O a ∨ Ow σ env a
/-- what must not be locked -/
def An (c : Cc) (σ : L2.St) (env : List Sl) (a : Addr) : Prop := c.lk = false ∨ Av c σ env a
/-- what may change: the state of the draws, own lists and dicts -/
def Mv (c : Cc) (σ : L2.St) (env : List Sl) (a : Addr) : Prop := Chg c.so c.cc a ∨ Ow σ env a
abbrev SO (c : Cc) : Prop := ∀ a, Chg c.so c.cc a → c.O a ∧ ∀ s, c.so = some s → c.O c.cc.cc
/-- an own list or dict: its top stands at a, its items are trees -/
def Ol (so : Option Addr) (O : Addr → Prop) (H : Hp) (a : Addr) : Dt → Prop
  | .lst ds => ∃ xs, H a = some (.lst xs) ∧ xs.length = ds.length ∧ ds.length ≤ Zz ∧ ∀ (i : Nat) x d, xs[i]? = some x → ds[i]? = some d → Rv so O H x d
  | .dct ds => ∃ kvs, H a = some (.dK kvs) ∧ kvs.map (·.1) = ds.map (·.1) ∧ ds.length ≤ Zz ∧ ∀ (i : Nat) k x k' d, kvs[i]? = some (k, x) → ds[i]? = some (k', d) → Rv so O H x d
  | .dtn hs ds => ∃ xs, H a = some (Nk.DN hs a xs) ∧ xs.map (·.1) = ds.map (·.1) ∧ ds.length ≤ Zz ∧ (∀ (i : Nat) k b x, xs[i]? = some (k, b, x) → Rv so O H (.ref b) (k2D k)) ∧ ∀ (i : Nat) k b x k' d, xs[i]? = some (k, b, x) → ds[i]? = some (k', d) → Rv so O H x d
  | _ => False
structure Hb (K : PySem.W.Frag) (c : Cc) (H : Hp) : Prop where
  base : Ko (fun a => Chg c.so c.cc a) (fun a => c.lb = false ∨ c.O a) c.B H
  lkb : c.lk = true → c.lb = true
  sO : SO c
  dom : ∀ a, c.O a → H a ≠ none
  stt : Stt K c.so c.cc H
structure Sv (K : PySem.W.Frag) (c : Cc) (H : Hp) (σ : L2.St) (env : List Sl) : Prop extends Hb K c H where
  len : σ.length = env.length
  uniq : ∀ (i j : Nat) (d e : Dt) (a : Addr), env[i]? = some (Sl.own d) → env[j]? = some (Sl.own e) → σ[i]? = some (some (V.ref a)) → σ[j]? = some (some (V.ref a)) → i = j
  tree : ∀ (i : Nat) (d : Dt), env[i]? = some (Sl.v d) → ∃ x, σ[i]? = some (some x) ∧ Rv c.so (Av c σ env) H x d
  own : ∀ (i : Nat) (d : Dt), env[i]? = some (Sl.own d) → ∃ a, σ[i]? = some (some (V.ref a)) ∧ c.B a = none ∧ ¬ c.O a ∧ Ol c.so (Av c σ env) H a d
/-- fewer own slots -/
def Le (env' env : List Sl) : Prop := ∀ (i : Nat) d, env'[i]? = some (Sl.own d) → ∃ e, env[i]? = some (Sl.own e)
theorem Le.refl {env : List Sl} : Le env env := fun _ d h => ⟨d, h⟩
theorem Le.trans {e1 e2 e3 : List Sl} (a : Le e2 e1) (b : Le e3 e2) : Le e3 e1 := fun i d h => by
  obtain ⟨_, h⟩ := b i d h
  exact a i _ h
theorem Av.le {c : Cc} {σ : L2.St} {env' env : List Sl} (h : Le env' env) (a : Addr) (z : Av c σ env' a) : Av c σ env a := by
  rcases z with z | ⟨i, d, h1, h2⟩
  · exact .inl z
  · obtain ⟨e, h3⟩ := h i d h1
    exact .inr ⟨i, e, h3, h2⟩
theorem An.le {c : Cc} {σ : L2.St} {env' env : List Sl} (h : Le env' env) (a : Addr) (z : An c σ env' a) : An c σ env a := z.imp id (Av.le h a)
theorem Mv.le {c : Cc} {σ : L2.St} {env' env : List Sl} (h : Le env' env) (a : Addr) (z : Mv c σ env' a) : Mv c σ env a := by
  rcases z with z | ⟨i, d, h1, h2⟩
  · exact .inl z
  · obtain ⟨e, h3⟩ := h i d h1
    exact .inr ⟨i, e, h3, h2⟩
theorem Mv.av {c : Cc} {σ : L2.St} {env : List Sl} (hs : SO c) (a : Addr) (z : Mv c σ env a) : Av c σ env a := z.imp (fun z => (hs a z).1) id
section
variable {K : PySem.W.Frag} {c : Cc} {H H1 H2 H' : Hp} {σ : L2.St} {env env' : List Sl} {so : Option Addr} {O : Addr → Prop} {a : Addr} {d : Dt} {x : V}
theorem Ol.keep {A : Addr → Prop} (h : Ol so O H a d) (k : Ko O A H H') (ha : H' a = H a) : Ol so O H' a d := by
  cases d with
  | lst ds =>
    obtain ⟨xs, h1, h2, h3, h4⟩ := h
    exact ⟨xs, by rw [ha]; exact h1, h2, h3, fun i x d e1 e2 => (h4 i x d e1 e2).keep k⟩
  | dct ds =>
    obtain ⟨xs, h1, h2, h3, h4⟩ := h
    exact ⟨xs, by rw [ha]; exact h1, h2, h3, fun i k' x k'' d e1 e2 => (h4 i k' x k'' d e1 e2).keep k⟩
  | dtn hs ds =>
    obtain ⟨xs, h1, h2, h3, h5, h4⟩ := h
    exact ⟨xs, by rw [ha]; exact h1, h2, h3, fun i k' b x e1 => (h5 i k' b x e1).keep k, fun i k' b x k'' d e1 e2 => (h4 i k' b x k'' d e1 e2).keep k⟩
  | _ => exact h.elim
theorem Ol.mono {O' : Addr → Prop} (h : Ol so O H a d) (hO : ∀ a, O' a → O a) : Ol so O' H a d := by
  cases d with
  | lst ds =>
    obtain ⟨xs, h1, h2, h3, h4⟩ := h
    exact ⟨xs, h1, h2, h3, fun i x d e1 e2 => (h4 i x d e1 e2).mono hO⟩
  | dct ds =>
    obtain ⟨xs, h1, h2, h3, h4⟩ := h
    exact ⟨xs, h1, h2, h3, fun i k' x k'' d e1 e2 => (h4 i k' x k'' d e1 e2).mono hO⟩
  | dtn hs ds =>
    obtain ⟨xs, h1, h2, h3, h5, h4⟩ := h
    exact ⟨xs, h1, h2, h3, fun i k' b x e1 => (h5 i k' b x e1).mono hO, fun i k' b x k'' d e1 e2 => (h4 i k' b x k'' d e1 e2).mono hO⟩
  | _ => exact h.elim
theorem Ol.avoid {O' : Addr → Prop} (h : Ol so O H a d) (hO : ∀ a, O' a → O a ∨ H a = none) : Ol so O' H a d := by
  cases d with
  | lst ds =>
    obtain ⟨xs, h1, h2, h3, h4⟩ := h
    exact ⟨xs, h1, h2, h3, fun i x d e1 e2 => (h4 i x d e1 e2).avoid hO⟩
  | dct ds =>
    obtain ⟨xs, h1, h2, h3, h4⟩ := h
    exact ⟨xs, h1, h2, h3, fun i k' x k'' d e1 e2 => (h4 i k' x k'' d e1 e2).avoid hO⟩
  | dtn hs ds =>
    obtain ⟨xs, h1, h2, h3, h5, h4⟩ := h
    exact ⟨xs, h1, h2, h3, fun i k' b x e1 => (h5 i k' b x e1).avoid hO, fun i k' b x k'' d e1 e2 => (h4 i k' b x k'' d e1 e2).avoid hO⟩
  | _ => exact h.elim
theorem Ol.some (h : Ol so O H a d) : H a ≠ none := by
  cases d with
  | lst ds => obtain ⟨xs, h1, _⟩ := h; rw [h1]; exact fun z => nomatch z
  | dct ds => obtain ⟨xs, h1, _⟩ := h; rw [h1]; exact fun z => nomatch z
  | dtn hs ds => obtain ⟨xs, h1, _⟩ := h; rw [h1]; exact fun z => nomatch z
  | _ => exact h.elim
theorem Stt.ex {cc : Ct} (h : Stt K so cc H) (e : Ex H H') : Stt K so cc H' := by
  refine ⟨?_, h.2.ext e⟩
  have h := h.1
  cases so with
  | none => trivial
  | some s =>
    obtain ⟨ns, n, l, m, S⟩ := h
    exact ⟨ns, n, l, m, S.ex e⟩
theorem tabs_put {T : List (Addr × Str)} {p : Addr} {o : HO} (h : LamX.Tabs T H) (hp : Pl H p) : LamX.Tabs T (upd H p o) := fun t ht => by
  obtain ⟨u, e0, n1, n2⟩ := hp
  obtain ⟨ps, h1, h2, h3⟩ := h t ht
  refine ⟨ps, by rw [upd_ne fun z => n1 ps (by rw [z, e0] at h1; exact Option.some.inj h1)]; exact h1, h2, fun pos cv hc => ?_⟩
  obtain ⟨c, e1, e2⟩ := h3 pos cv hc
  exact ⟨c, e1, by rw [upd_ne fun z => n2 t.2 (by subst z; rw [e0] at e2; exact Option.some.inj e2)]; exact e2⟩
theorem Ol.pl (h : Ol so O H a d) : Pl H a := by
  cases d with
  | lst ds => obtain ⟨xs, h1, _⟩ := h; exact ⟨_, h1, (fun _ z => nomatch z), (fun _ z => nomatch z)⟩
  | dct ds => obtain ⟨xs, h1, _⟩ := h; exact ⟨_, h1, (fun _ z => nomatch z), (fun _ z => nomatch z)⟩
  | dtn hs ds => obtain ⟨xs, h1, _⟩ := h; exact ⟨_, h1, (fun _ z => nomatch z), fun _ => Nk.dn_ne⟩
  | _ => exact h.elim
/-- what changed is neither the state nor its cells -/
theorem Stt.put {cc : Ct} {p : Addr} {o : HO} (h : Stt K so cc H) (h1 : ∀ s, so = some s → p ≠ s ∧ p ≠ cc.cc) (h2 : Pl H p) : Stt K so cc (upd H p o) := by
  refine ⟨?_, tabs_put h.2 h2⟩
  have h := h.1
  cases so with
  | none => trivial
  | some s =>
    obtain ⟨ns, n, l, m, S⟩ := h
    obtain ⟨n1, n2⟩ := h1 s rfl
    refine ⟨ns, n, l, m, S.ne, ?_, S.len, by rw [upd_ne (Ne.symm n1)]; exact S.st⟩
    rcases S.cs with (h | ⟨o, h⟩) | h
    · exact .inl (.inl (by rw [upd_ne (Ne.symm n2)]; exact h))
    · exact .inl (.inr ⟨o, by rw [upd_ne (Ne.symm n2)]; exact h⟩)
    · exact .inr h
theorem Sv.kp {A : Addr → Prop} (S : Sv K c H1 σ env) (r : Rv c.so (Av c σ env) H x d) (k : Ko (Mv c σ env) A H H') : Rv c.so (Av c σ env) H' x d := r.keep (k.mono (Mv.av S.sO) fun _ z => z)
theorem Av.dom (S : Sv K c H σ env) (h : Av c σ env a) : H a ≠ none := by
  rcases h with h | ⟨i, d, h1, h2⟩
  · exact S.dom a h
  · obtain ⟨b, e1, _, _, e2⟩ := S.own i d h1
    rw [h2] at e1
    cases e1
    exact e2.some
/-- the heap grows -/
theorem Sv.ex (S : Sv K c H σ env) (e : Ex H H') : Sv K c H' σ env := by
  refine ⟨⟨S.base.trans (Ko.ex e), S.lkb, S.sO, fun a h => ?_, S.stt.ex e⟩, S.len, S.uniq, fun i d h => ?_, fun i d h => ?_⟩
  · exact ex_some e (S.dom a h)
  · obtain ⟨x, h1, h2⟩ := S.tree i d h
    exact ⟨x, h1, h2.ex e⟩
  · obtain ⟨x, h1, h2, h3, h4⟩ := S.own i d h
    refine ⟨x, h1, h2, h3, h4.keep (A := Av c σ env) (Ko.ex e) ?_⟩
    cases q : H x with
    | none => exact absurd q h4.some
    | some o => exact e x o q
end
/-- a def's surroundings: the written part, the wish about exceptions, and what it is of trees (the class, the fields) -/
structure Gx where
  K : PySem.W.Frag
  E : XK
  xe : Addr → List (Str × Dt) → Prop
  lk : Bool
  T : List (Addr × Str)
def Lk (g : Gx) (c : Cc) : Prop := g.lk = c.lk ∧ (∀ C fs, g.xe C fs → ∀ H' d (xs : List (Str × V)), Hb g.K c H' → H' d = some (.xd xs) → xs.map (·.1) = fs.map (·.1) →
  (∀ (i : Nat) k x k' t, xs[i]? = some (k, x) → fs[i]? = some (k', t) → Rv c.so c.O H' x t) → g.E (.ref C) (some d) H') ∧ (g.T = [] ∨ c.cc.T = g.T)
/-- what an expression gives, and the slots behind it -/
def Et (g : Gx) (env : List Sl) (te : TE) (P : Dt → List Sl → Prop) : Prop := ∀ c, Lk g c → ∀ σ H, Sv g.K c H σ env → ∀ Q : VK,
  (∀ x d env' H1, P d env' → Sv g.K c H1 σ env' → Le env' env → Ko (Mv c σ env) (An c σ env) H H1 → Rv c.so (Av c σ env') H1 x d → Q x H1) → te σ H Q
def Eb (g : Gx) (env : List Sl) (tt : TT) (P : Bool → List Sl → Prop) : Prop := ∀ c, Lk g c → ∀ σ H, Sv g.K c H σ env → ∀ Q : Bool → Hp → Prop,
  (∀ b env' H1, P b env' → Sv g.K c H1 σ env' → Le env' env → Ko (Mv c σ env) (An c σ env) H H1 → Q b H1) → tt σ H Q
/-- a list of values is a list of trees -/
def Rvs (so : Option Addr) (O : Addr → Prop) (H : Hp) (xs : List V) (ds : List Dt) : Prop := xs.length = ds.length ∧ ∀ (i : Nat) x d, xs[i]? = some x → ds[i]? = some d → Rv so O H x d
def Ea (g : Gx) (env : List Sl) (ta : TA) (P : List Dt → List Sl → Prop) : Prop := ∀ c, Lk g c → ∀ σ H, Sv g.K c H σ env → ∀ Q : List V → Hp → Prop,
  (∀ xs ds env' H1, P ds env' → Sv g.K c H1 σ env' → Le env' env → Ko (Mv c σ env) (An c σ env) H H1 → Rvs c.so (Av c σ env') H1 xs ds → Q xs H1) → ta σ H Q
/-- a statement's ends -/
structure De where
  nx : List Sl → Prop
  rt : Dt → Prop
  bk : List Sl → Prop := fun _ => False
  ct : List Sl → Prop := fun _ => False
/-- from one point of the body to a later one: what is kept, and the own slots are old ones or new objects -/
def Fw (c : Cc) (σ : L2.St) (env : List Sl) (H : Hp) (σ' : L2.St) (env' : List Sl) (H' : Hp) : Prop := Ko (Mv c σ env) (An c σ env) H H' ∧ ∀ a, Ow σ' env' a → Ow σ env a ∨ H a = none
theorem Fw.refl {c : Cc} {σ : L2.St} {env : List Sl} {H : Hp} : Fw c σ env H σ env H := ⟨Ko.refl, fun _ h => .inl h⟩
theorem Fw.trans {c : Cc} {σ σ1 σ2 : L2.St} {env e1 e2 : List Sl} {H H1 H2 : Hp} (f : Fw c σ env H σ1 e1 H1) (k : Fw c σ1 e1 H1 σ2 e2 H2) : Fw c σ env H σ2 e2 H2 := by
  have nm : ∀ a o, ¬ Mv c σ env a → H a = some o → ¬ Mv c σ1 e1 a := fun a o n h z => by
    rcases z with z | z
    · exact n (.inl z)
    · rcases f.2 a z with z | z
      · exact n (.inr z)
      · rw [h] at z; cases z
  refine ⟨⟨fun a o n h => ?_, fun a z => k.1.2 a (f.1.2 a z)⟩, fun a h => ?_⟩
  · have n1 := nm a o n h
    rcases f.1.1 a o n h with h2 | ⟨z, kvs, od, rfl, h2⟩
    · refine (k.1.1 a o n1 h2).imp id fun ⟨z, w⟩ => ⟨fun q => ?_, w⟩
      rcases q with q | q | q
      · exact z (.inl q)
      · exact z (.inr (.inl q))
      · exact n (.inr q)
    · rcases k.1.1 a _ n1 h2 with h3 | ⟨_, kvs', od', q, _⟩
      · exact .inr ⟨z, kvs, od, rfl, h3⟩
      · cases q
  · rcases k.2 a h with h | h
    · exact f.2 a h
    · exact .inr (f.1.back h)
/-- the surroundings stay the same but for the heap -/
def Wd (g : Gx) (env : List Sl) (t : TS) (E : De) : Prop := ∀ c, Lk g c → ∀ σ H, Sv g.K c H σ env → ∀ D : Ends,
  (∀ σ' H' env', Sv g.K c H' σ' env' → Fw c σ env H σ' env' H' → E.nx env' → D.nx σ' H') → (∀ σ' H' env', Sv g.K c H' σ' env' → Fw c σ env H σ' env' H' → E.bk env' → D.bk σ' H') →
  (∀ σ' H' env', Sv g.K c H' σ' env' → Fw c σ env H σ' env' H' → E.ct env' → D.ct σ' H') →
  (∀ x d H', E.rt d → Hb g.K c H' → Ko (Mv c σ env) (An c σ env) H H' → Rv c.so c.O H' x d → D.rt x H') → t D σ H
end Wv
/-! Rules of expressions over trees. -/
namespace Wv
open PySem L2 Evl
section
variable {g : Gx} {c : Cc} {H H1 H2 H' : Hp} {σ : L2.St} {env e1 : List Sl} {ta tb te : TE} {tt tu : TT} {P : Dt → List Sl → Prop} {x : V} {d : Dt}
theorem Sv.lk_av (S : Sv g.K c H σ env) : ∀ a, Av c σ env a → H a ≠ none := fun a h => Av.dom S h
/-- a new object at p -/
theorem Sv.nav (S : Sv g.K c H σ env) {p : Addr} (hp : H p = none) : ¬ Av c σ env p := fun z => Av.dom S z hp
theorem et_imp {P' : Dt → List Sl → Prop} (h : Et g env te P) (k : ∀ d e, P d e → P' d e) : Et g env te P' := fun c L σ H S Q q => h c L σ H S Q fun x d e H1 p => q x d e H1 (k d e p)
theorem et_var {i : Nat} (h : env[i]? = some (Sl.v d)) (p : P d env) : Et g env (tVar i) P := fun c L σ H S Q q => by
  obtain ⟨x, h1, r⟩ := S.tree i d h
  exact ⟨x, h1, q x d env H p S Le.refl Ko.refl r⟩
theorem et_int {i : Int} (p : P (.int i) env) : Et g env (tC (.int i)) P := fun c L σ H S Q q => q _ _ env H p S Le.refl Ko.refl (.int i)
theorem et_bl {b : Bool} (p : P (.bl b) env) : Et g env (tC (.bl b)) P := fun c L σ H S Q q => q _ _ env H p S Le.refl Ko.refl (.bl b)
theorem et_non (p : P .non env) : Et g env (tC .non) P := fun c L σ H S Q q => q _ _ env H p S Le.refl Ko.refl .non
theorem et_str {z : Str} (p : P (.str z) env) (hz : z.length ≤ Zz := by decide) : Et g env (tC (.str z)) P := fun c L σ H S Q q => q _ _ env H p S Le.refl Ko.refl (.str hz)
/-- setting one slot: the rest as before -/
theorem Sl.get_set {env : List Sl} {i j : Nat} {s t : Sl} (h : (env.set i s)[j]? = some t) : (j = i ∧ s = t) ∨ (j ≠ i ∧ env[j]? = some t) := by
  rw [List.getElem?_set] at h
  split at h
  · rename_i e
    split at h
    · exact .inl ⟨e.symm, Option.some.inj h⟩
    · cases h
  · rename_i e
    exact .inr ⟨fun z => e z.symm, h⟩
theorem le_set_v {i : Nat} : Le (env.set i (.v d)) env := fun j e h => by
  rcases Sl.get_set h with ⟨_, z⟩ | ⟨_, z⟩
  · cases z
  · exact ⟨e, z⟩
/-- an own list or dict is a tree, if the slot is a tree's from then on -/
theorem own_tree {i : Nat} (S : Sv g.K c H σ env) (h : env[i]? = some (Sl.own d)) : ∃ a, σ[i]? = some (some (V.ref a)) ∧ c.B a = none ∧ Rv c.so (Av c σ (env.set i (.v d))) H (.ref a) d ∧ Ol c.so (Av c σ env) H a d := by
  obtain ⟨a, h1, h2, h3, h4⟩ := S.own i d h
  have na : ¬ Av c σ (env.set i (.v d)) a := fun z => by
    rcases z with z | ⟨j, e, z1, z2⟩
    · exact h3 z
    · rcases Sl.get_set z1 with ⟨_, z⟩ | ⟨n, z⟩
      · cases z
      · exact n (S.uniq j i e d a z h z2 h1)
  have hm : ∀ a, Av c σ (env.set i (.v d)) a → Av c σ env a := Av.le le_set_v
  refine ⟨a, h1, h2, ?_, h4⟩
  cases d with
  | lst ds =>
    obtain ⟨xs, k1, k2, k3, k4⟩ := h4
    exact .lst na k1 k2 k3 fun i x d e1 e2 => (k4 i x d e1 e2).mono hm
  | dct ds =>
    obtain ⟨xs, k1, k2, k3, k4⟩ := h4
    exact .dct na (.inl k1) k2 k3 fun i k x k' d e1 e2 => (k4 i k x k' d e1 e2).mono hm
  | dtn hs ds =>
    obtain ⟨xs, k1, k2, k3, k5, k4⟩ := h4
    exact .dtn na k1 k2 k3 (fun i k b x e1 => (k5 i k b x e1).mono hm) fun i k b x k' d e1 e2 => (k4 i k b x k' d e1 e2).mono hm
  | _ => exact h4.elim
theorem Sv.frz {i : Nat} (S : Sv g.K c H σ env) (h : env[i]? = some (Sl.own d)) : Sv g.K c H σ (env.set i (.v d)) := by
  obtain ⟨a, h1, _, h2, _⟩ := own_tree S h
  have hm : ∀ a, Av c σ (env.set i (.v d)) a → Av c σ env a := Av.le le_set_v
  refine ⟨S.toHb, by rw [S.len, List.length_set], fun j k e f b z1 z2 z3 z4 => ?_, fun j e z => ?_, fun j e z => ?_⟩
  · rcases Sl.get_set z1 with ⟨_, z⟩ | ⟨_, z1⟩
    · cases z
    · rcases Sl.get_set z2 with ⟨_, z⟩ | ⟨_, z2⟩
      · cases z
      · exact S.uniq j k e f b z1 z2 z3 z4
  · rcases Sl.get_set z with ⟨ej, z⟩ | ⟨_, z⟩
    · cases z
      subst ej
      exact ⟨.ref a, h1, h2⟩
    · obtain ⟨x, k1, k2⟩ := S.tree j e z
      exact ⟨x, k1, k2.mono hm⟩
  · rcases Sl.get_set z with ⟨_, z⟩ | ⟨_, z⟩
    · cases z
    · obtain ⟨x, k1, k2, k3, k4⟩ := S.own j e z
      exact ⟨x, k1, k2, k3, k4.mono hm⟩
/-- an own list or dict handed on: a tree from then on -/
theorem et_own {i : Nat} (h : env[i]? = some (Sl.own d)) (p : P d (env.set i (.v d))) : Et g env (tVar i) P := fun c L σ H S Q q => by
  obtain ⟨a, h1, _, h2, _⟩ := own_tree S h
  exact ⟨.ref a, h1, q _ d _ H p (S.frz h) le_set_v Ko.refl h2⟩
/-- frames compose: from fewer own slots -/
theorem Ko.le (k2 : Ko (Mv c σ e1) (An c σ e1) H1 H2) (l : Le e1 env) : Ko (Mv c σ env) (An c σ env) H1 H2 :=
  ⟨fun a o n e => (k2.1 a o (fun z => n (Mv.le l a z)) e).imp id fun z => ⟨fun q => q.elim (fun q => z.1 (.inl q)) fun q => q.elim (fun q => z.1 (.inr (.inl q))) (fun q => n (.inr q)), z.2⟩, k2.2⟩
/-- an operation on two values, told of trees: what it gives is asked by f -/
def Rop (K : PySem.W.Frag) (r : R2) (f : Dt → Dt → (Dt → Prop) → Prop) : Prop := ∀ so O H x y d e, (∀ a, O a → H a ≠ none) → Rv so O H x d → Rv so O H y e → ∀ PD, f d e PD → ∀ Q : VK, (∀ z t H1, PD t → Ex H H1 → Rv so O H1 z t → Q z H1) → r x y H Q
/-- a call on values -/
def Rcl (K : PySem.W.Frag) (r : List V → Hp → VK → Prop) (f : List Dt → (Dt → Prop) → Prop) : Prop := ∀ so O H xs ds, (∀ a, O a → H a ≠ none) → Rvs so O H xs ds → ∀ PD, f ds PD → ∀ Q : VK, (∀ z t H1, PD t → Ex H H1 → Rv so O H1 z t → Q z H1) → r xs H Q
theorem et_op {r : R2} {f : Dt → Dt → (Dt → Prop) → Prop} (hr : Rop g.K r f) (h : Et g env ta fun d e1 => Et g e1 tb fun e e2 => f d e fun t => P t e2) : Et g env (tOp r ta tb) P := fun c L σ H S Q q =>
  h c L σ H S _ fun x d env1 H1 p1 S1 l1 k1 r1 => p1 c L σ H1 S1 _ fun y e env2 H2 p2 S2 l2 k2 r2 =>
    hr c.so (Av c σ env2) H2 x y d e S2.lk_av ((S1.kp r1 k2).mono (Av.le l2)) r2 _ p2 Q fun z t H3 p3 e3 r3 =>
      q z t env2 H3 p3 (S2.ex e3) (l1.trans l2) ((k1.trans (k2.le l1)).trans (Ko.ex e3)) r3
/-- the first operand an own list or dict, the answer flat -/
theorem et_opL {r : R2} {f : Dt → Dt → (Dt → Prop) → Prop} {i : Nat} {d0 : Dt} (hr : Rop g.K r f) (h0 : env[i]? = some (Sl.own d0)) (h : Et g env tb fun e e2 => ∃ d, e2[i]? = some (Sl.own d) ∧ f d e fun t => scl t = true ∧ P t e2) : Et g env (tOp r (tVar i) tb) P := fun c L σ H S Q q => by
  obtain ⟨a, h1, _⟩ := S.own i d0 h0
  refine ⟨.ref a, h1, h c L σ H S _ fun y e env2 H2 ⟨d, hd, p2⟩ S2 l2 k2 r2 => ?_⟩
  obtain ⟨a', h1', _, r1, _⟩ := own_tree S2 hd
  rw [h1] at h1'
  cases h1'
  exact hr c.so (Av c σ (env2.set i (.v d))) H2 _ y d e (fun a z => S2.lk_av a (Av.le le_set_v a z)) r1 (r2.mono (Av.le le_set_v)) _ p2 Q fun z t H3 p3 e3 r3 =>
    q z t env2 H3 p3.2 (S2.ex e3) l2 (k2.trans (Ko.ex e3)) (r3.scal p3.1)
theorem et_opR {r : R2} {f : Dt → Dt → (Dt → Prop) → Prop} {i : Nat} (hr : Rop g.K r f) (h : Et g env ta fun e e2 => ∃ d, e2[i]? = some (Sl.own d) ∧ f e d fun t => scl t = true ∧ P t e2) : Et g env (tOp r ta (tVar i)) P := fun c L σ H S Q q => by
  refine h c L σ H S _ fun y e env2 H2 ⟨d, hd, p2⟩ S2 l2 k2 r2 => ?_
  obtain ⟨a', h1', _, r1, _⟩ := own_tree S2 hd
  exact ⟨.ref a', h1', hr c.so (Av c σ (env2.set i (.v d))) H2 y _ e d (fun a z => S2.lk_av a (Av.le le_set_v a z)) (r2.mono (Av.le le_set_v)) r1 _ p2 Q fun z t H3 p3 e3 r3 =>
    q z t env2 H3 p3.2 (S2.ex e3) l2 (k2.trans (Ko.ex e3)) (r3.scal p3.1)⟩
theorem Rvs.keep {so : Option Addr} {O : Addr → Prop} {xs : List V} {ds : List Dt} (r : Rvs so O H xs ds) {A : Addr → Prop} (k : Ko O A H H') : Rvs so O H' xs ds := ⟨r.1, fun i x d h1 h2 => (r.2 i x d h1 h2).keep k⟩
theorem Rvs.mono {so : Option Addr} {O O' : Addr → Prop} {xs : List V} {ds : List Dt} (r : Rvs so O H xs ds) (k : ∀ a, O' a → O a) : Rvs so O' H xs ds := ⟨r.1, fun i x d h1 h2 => (r.2 i x d h1 h2).mono k⟩
theorem Rvs.nil {so : Option Addr} {O : Addr → Prop} : Rvs so O H [] [] := ⟨rfl, fun i x d h => by simp at h⟩
theorem Rvs.cons {so : Option Addr} {O : Addr → Prop} {xs : List V} {ds : List Dt} (h : Rv so O H x d) (r : Rvs so O H xs ds) : Rvs so O H (x :: xs) (d :: ds) := ⟨by simp [r.1], fun i y e h1 h2 => by
  cases i with
  | zero => cases h1; cases h2; exact h
  | succ i => exact r.2 i y e h1 h2⟩
theorem ea_nil {P : List Dt → List Sl → Prop} (p : P [] env) : Ea g env tNil P := fun c L σ H S Q q => q [] [] env H p S Le.refl Ko.refl Rvs.nil
theorem ea_cons {tr : TA} {P : List Dt → List Sl → Prop} (h : Et g env te fun d e1 => Ea g e1 tr fun ds e2 => P (d :: ds) e2) : Ea g env (tCons te tr) P := fun c L σ H S Q q =>
  h c L σ H S _ fun x d env1 H1 p1 S1 l1 k1 r1 => p1 c L σ H1 S1 _ fun ys ds env2 H2 p2 S2 l2 k2 r2 =>
    q _ _ env2 H2 p2 S2 (l1.trans l2) (k1.trans (k2.le l1)) (Rvs.cons ((S1.kp r1 k2).mono (Av.le l2)) r2)
theorem et_cb {r : List V → Hp → VK → Prop} {f : List Dt → (Dt → Prop) → Prop} {ta : TA} (hr : Rcl g.K r f) (h : Ea g env ta fun ds e1 => f ds fun t => P t e1) : Et g env (tCB r ta) P := fun c L σ H S Q q =>
  h c L σ H S _ fun xs ds env1 H1 p1 S1 l1 k1 r1 => hr c.so (Av c σ env1) H1 xs ds S1.lk_av r1 _ p1 Q fun z t H3 p3 e3 r3 => q z t env1 H3 p3 (S1.ex e3) l1 (k1.trans (Ko.ex e3)) r3
/-- of one own list or dict, the answer flat (len, any, all, sum ..) -/
theorem et_cbO {r : List V → Hp → VK → Prop} {f : List Dt → (Dt → Prop) → Prop} {i : Nat} (hr : Rcl g.K r f) (h : env[i]? = some (Sl.own d)) (p : f [d] fun t => scl t = true ∧ P t env) : Et g env (tCB r (tCons (tVar i) tNil)) P := fun c L σ H S Q q => by
  obtain ⟨a, h1, _, r1, _⟩ := own_tree S h
  exact ⟨.ref a, h1, hr c.so (Av c σ (env.set i (.v d))) H _ _ (fun a z => S.lk_av a (Av.le le_set_v a z)) (Rvs.cons r1 Rvs.nil) _ p Q fun z t H3 p3 e3 r3 => q z t env H3 p3.2 (S.ex e3) Le.refl (Ko.ex e3) (r3.scal p3.1)⟩
/-! ### tests -/
@[irreducible] def isB : Dt → (Bool → Prop) → Prop
  | .bl b, k => k b
  | _, _ => False
theorem isB_bl {b : Bool} {k : Bool → Prop} : isB (.bl b) k = k b := by unfold isB; rfl
theorem isB_dt {k : Bool → Prop} (h : isB d k) : ∃ b, d = .bl b ∧ k b := by
  unfold isB at h
  cases d with
  | bl b => exact ⟨b, rfl, h⟩
  | _ => exact h.elim
theorem isB_rv {so : Option Addr} {O : Addr → Prop} {k : Bool → Prop} (r : Rv so O H x d) (h : isB d k) : ∃ b, x = .bl b ∧ k b := by
  obtain ⟨b, rfl, hk⟩ := isB_dt h
  cases r with
  | bl b => exact ⟨_, rfl, hk⟩
theorem eb_test {P : Bool → List Sl → Prop} (h : Et g env te fun d e => isB d fun b => P b e) : Eb g env (tTest te) P := fun c L σ H S Q q =>
  h c L σ H S _ fun x d env1 H1 p1 S1 l1 k1 r1 => by
    obtain ⟨b, e, p⟩ := isB_rv r1 p1
    exact ⟨b, e, q b env1 H1 p S1 l1 k1⟩
theorem eb_B {P : Bool → List Sl → Prop} (h : Et g env te fun d e => isB d fun b => P b e) : Eb g env (tB te) P := fun c L σ H S Q q =>
  h c L σ H S _ fun x d env1 H1 p1 S1 l1 k1 r1 => by
    obtain ⟨b, e, p⟩ := isB_rv r1 p1
    exact ⟨b, e, q b env1 H1 p S1 l1 k1⟩
theorem eb_not {P : Bool → List Sl → Prop} (h : Eb g env tt fun b e => P (!b) e) : Eb g env (tNot tt) P := fun c L σ H S Q q =>
  h c L σ H S _ fun b e H1 p S1 l k => q (!b) e H1 p S1 l k
theorem eb_and {P : Bool → List Sl → Prop} (h : Eb g env tt fun b e => if b = true then Eb g e tu P else P false e) : Eb g env (tAnd tt tu) P := fun c L σ H S Q q =>
  h c L σ H S _ fun b e H1 p S1 l k => by
    cases b with
    | true => exact p c L σ H1 S1 Q fun b' e' H2 p' S2 l2 k2 => q b' e' H2 p' S2 (l.trans l2) (k.trans (k2.le l))
    | false => exact q false e H1 p S1 l k
theorem eb_or {P : Bool → List Sl → Prop} (h : Eb g env tt fun b e => if b = true then P true e else Eb g e tu P) : Eb g env (tOr tt tu) P := fun c L σ H S Q q =>
  h c L σ H S _ fun b e H1 p S1 l k => by
    cases b with
    | false => exact p c L σ H1 S1 Q fun b' e' H2 p' S2 l2 k2 => q b' e' H2 p' S2 (l.trans l2) (k.trans (k2.le l))
    | true => exact q true e H1 p S1 l k
theorem et_andV (h : Et g env ta fun d e => isB d fun b => if b = true then Et g e tb P else P (.bl false) e) : Et g env (tAndV ta tb) P := fun c L σ H S Q q =>
  h c L σ H S _ fun x d env1 H1 p1 S1 l1 k1 r1 => by
    obtain ⟨b, e, p⟩ := isB_rv r1 p1
    refine ⟨b, e, ?_⟩
    cases b with
    | true => exact p c L σ H1 S1 Q fun y d' e' H2 p' S2 l2 k2 r2 => q y d' e' H2 p' S2 (l1.trans l2) (k1.trans (k2.le l1)) r2
    | false => exact q _ _ _ H1 p S1 l1 k1 (.bl false)
theorem et_orV (h : Et g env ta fun d e => isB d fun b => if b = true then P (.bl true) e else Et g e tb P) : Et g env (tOrV ta tb) P := fun c L σ H S Q q =>
  h c L σ H S _ fun x d env1 H1 p1 S1 l1 k1 r1 => by
    obtain ⟨b, e, p⟩ := isB_rv r1 p1
    refine ⟨b, e, ?_⟩
    cases b with
    | false => exact p c L σ H1 S1 Q fun y d' e' H2 p' S2 l2 k2 r2 => q y d' e' H2 p' S2 (l1.trans l2) (k1.trans (k2.le l1)) r2
    | true => exact q _ _ _ H1 p S1 l1 k1 (.bl true)
theorem et_notV (h : Et g env ta fun d e => isB d fun b => P (.bl (!b)) e) : Et g env (tNotV ta) P := fun c L σ H S Q q =>
  h c L σ H S _ fun x d env1 H1 p1 S1 l1 k1 r1 => by
    obtain ⟨b, e, p⟩ := isB_rv r1 p1
    exact ⟨b, e, q _ _ _ H1 p S1 l1 k1 (.bl _)⟩
theorem et_if (h : Eb g env tt fun b e => if b = true then Et g e ta P else Et g e tb P) : Et g env (tIf tt ta tb) P := fun c L σ H S Q q =>
  h c L σ H S _ fun b e H1 p S1 l1 k1 => by
    cases b with
    | true => exact p c L σ H1 S1 Q fun y d' e' H2 p' S2 l2 k2 r2 => q y d' e' H2 p' S2 (l1.trans l2) (k1.trans (k2.le l1)) r2
    | false => exact p c L σ H1 S1 Q fun y d' e' H2 p' S2 l2 k2 r2 => q y d' e' H2 p' S2 (l1.trans l2) (k1.trans (k2.le l1)) r2
/-! ### displays -/
theorem Av.add {p a : Addr} : Av (c.add p) σ env a ↔ Av c σ env a ∨ a = p := ⟨fun h => by
  rcases h with (h | h) | h
  · exact .inl (.inl h)
  · exact .inr h
  · exact .inl (.inr h), fun h => by
  rcases h with (h | h) | h
  · exact .inl (.inl h)
  · exact .inr h
  · exact .inl (.inr h)⟩
/-- a new object is avoided from then on -/
theorem Hb.add {p : Addr} {o : HO} (S : Hb g.K c H) (hp : H p = none) : Hb g.K (c.add p) (upd H p o) := by
  have e := Ex.new (o := o) hp
  refine ⟨?_, S.lkb, fun a h => ⟨.inl (S.sO a h).1, fun s z => .inl ((S.sO a h).2 s z)⟩, fun a h => ?_, S.stt.ex e⟩
  · refine ⟨fun a u n h => ?_, fun a z => ex_some e (S.base.2 a z)⟩
    rcases S.base.1 a u n h with z | ⟨z, kvs, od, rfl, w⟩
    · exact .inl (e a u z)
    · exact .inr ⟨fun q => Or.elim (show c.lb = false ∨ c.O a ∨ a = p from q) (fun q => z (.inl q)) (fun q => q.elim (fun q => z (.inr q)) (fun q => by rw [q, hp] at w; cases w)), kvs, od, rfl, e a _ w⟩
  · rcases h with h | h
    · exact ex_some e (S.dom a h)
    · rw [h, upd_same]; exact fun z => nomatch z
theorem Hb.less {p : Addr} (S : Hb g.K (c.add p) H) (hs : SO c) : Hb g.K c H :=
  ⟨S.base.mono (fun _ z => z) (fun a z => z.imp id .inl), S.lkb, hs, fun a h => S.dom a (.inl h), S.stt⟩
theorem Lk.add {p : Addr} (L : Lk g c) (hs : SO c) : Lk g (c.add p) := ⟨L.1, fun C fs hx H' d xs hb h1 h2 h3 => L.2.1 C fs hx H' d xs (hb.less hs) h1 h2 fun i k' x k'' t e1 e2 => (h3 i k' x k'' t e1 e2).mono fun a z => .inl z, L.2.2⟩
/-- a new object is avoided from then on -/
theorem Sv.add {p : Addr} {o : HO} (S : Sv g.K c H σ env) (hp : H p = none) : Sv g.K (c.add p) (upd H p o) σ env := by
  refine ⟨S.toHb.add hp, S.len, S.uniq, fun i d h => ?_, fun i d h => ?_⟩
  · obtain ⟨x, h1, h2⟩ := S.tree i d h
    refine ⟨x, h1, (h2.avoid fun a z => ?_).ex (Ex.new hp)⟩
    rcases Av.add.mp z with z | z
    · exact .inl z
    · exact .inr (by rw [z]; exact hp)
  · obtain ⟨x, h1, h2, h3, h4⟩ := S.own i d h
    have nx : x ≠ p := fun z => h4.some (by rw [z]; exact hp)
    refine ⟨x, h1, h2, fun z => Or.elim (show c.O x ∨ x = p from z) h3 nx, (h4.avoid fun a z => ?_).keep (A := c.O) (Ko.new hp) (upd_ne nx)⟩
    rcases Av.add.mp z with z | z
    · exact .inl z
    · exact .inr (by rw [z]; exact hp)
theorem Sv.less {p : Addr} (S : Sv g.K (c.add p) H σ env) (hs : SO c) : Sv g.K c H σ env := by
  have m : ∀ a, Av c σ env a → Av (c.add p) σ env a := fun a h => Av.add.mpr (.inl h)
  refine ⟨S.toHb.less hs, S.len, S.uniq, fun i d h => ?_, fun i d h => ?_⟩
  · obtain ⟨x, h1, h2⟩ := S.tree i d h
    exact ⟨x, h1, h2.mono m⟩
  · obtain ⟨x, h1, h2, h3, h4⟩ := S.own i d h
    exact ⟨x, h1, h2, fun z => h3 (.inl z), h4.mono m⟩
/-- a fresh list or dict, for an own slot -/
def Ef (g : Gx) (env : List Sl) (te : TE) (P : Dt → List Sl → Prop) : Prop := ∀ c, Lk g c → ∀ σ H, Sv g.K c H σ env → ∀ Q : VK,
  (∀ a d env' H1, P d env' → Sv g.K (c.add a) H1 σ env' → Le env' env → Ko (Mv c σ env) (An c σ env) H H1 → H a = none → Ol c.so (Av (c.add a) σ env') H1 a d → Q (.ref a) H1) → te σ H Q
theorem Ol.rv {so : Option Addr} {O : Addr → Prop} {a : Addr} (h : Ol so O H a d) (n : ¬ O a) : Rv so O H (.ref a) d := by
  cases d with
  | lst ds =>
    obtain ⟨xs, k1, k2, k3, k4⟩ := h
    exact .lst n k1 k2 k3 k4
  | dct ds =>
    obtain ⟨xs, k1, k2, k3, k4⟩ := h
    exact .dct n (.inl k1) k2 k3 k4
  | dtn hs ds =>
    obtain ⟨xs, k1, k2, k3, k5, k4⟩ := h
    exact .dtn n k1 k2 k3 k5 k4
  | _ => exact h.elim
theorem nav_add {a : Addr} (S : Sv g.K c H σ env) (S1 : Sv g.K (c.add a) H1 σ e1) (ha : H a = none) : ¬ Av c σ e1 a := fun z => by
  rcases z with z | ⟨i, d, z1, z2⟩
  · exact S.dom a z ha
  · obtain ⟨x, h1, _, h3, _⟩ := S1.own i d z1
    rw [z2] at h1
    cases h1
    exact h3 (.inr rfl)
theorem Ef.et (h : Ef g env te P) : Et g env te P := fun c L σ H S Q q => h c L σ H S Q fun a d e H1 p S1 l k n o =>
  q _ d e H1 p (S1.less S.sO) l k ((o.mono fun a z => Av.add.mpr (.inl z)).rv (nav_add S S1 n))
theorem ef_lst {ta : TA} (h : Ea g env ta fun ds e => ds.length ≤ Zz ∧ P (.lst ds) e) : Ef g env (tLst ta) P := fun c L σ H S Q q =>
  h c L σ H S _ fun xs ds e H1 ⟨hz, p⟩ S1 l k r => ⟨sz_of (by rw [r.1]; exact Nat.le_trans hz (by decide)), fun a ha =>
    q a (.lst ds) e _ p (S1.add ha) l (k.trans (Ko.new ha)) (k.back ha) ⟨xs, upd_same, r.1, hz, fun i x d h1 h2 => ((r.2 i x d h1 h2).avoid fun b z => (Av.add.mp z).imp id fun z => by rw [z]; exact ha).ex (Ex.new ha)⟩⟩
theorem et_tup {ta : TA} (h : Ea g env ta fun ds e => ds.length ≤ Zz ∧ P (.tup ds) e) : Et g env (tTup ta) P := fun c L σ H S Q q =>
  h c L σ H S _ fun xs ds e H1 ⟨hz, p⟩ S1 l k r => ⟨sz_of (by rw [r.1]; exact Nat.le_trans hz (by decide)), fun a ha =>
    q _ (.tup ds) e _ p (S1.ex (Ex.new ha)) l (k.trans (Ko.new ha)) (.tup (S1.nav ha) upd_same r.1 hz fun i x d h1 h2 => (r.2 i x d h1 h2).ex (Ex.new ha))⟩
theorem ef_dnew (p : P (.dct []) env) : Ef g env tDNewK P := fun c L σ H S Q q a ha =>
  q a (.dct []) env _ p (S.add ha) Le.refl (Ko.new ha) ha ⟨[], upd_same, rfl, Nat.zero_le _, fun i k x k' d h => by simp at h⟩
end
end Wv
/-! Rules of statements over trees. -/
namespace Wv
open PySem L2 Evl
section
variable {g : Gx} {c : Cc} {H H1 H2 H' : Hp} {σ : L2.St} {env e1 : List Sl} {ta tb te : TE} {tt : TT} {t u tu tw : TS} {P : Dt → List Sl → Prop} {x : V} {d : Dt} {E : De}
theorem Sv.low (S : Sv g.K c H σ env) : ∀ a, c.O a → H a ≠ none := S.dom
theorem fw_e {env' : List Sl} (l : Le env' env) (k : Ko (Mv c σ env) (An c σ env) H H1) : Fw c σ env H σ env' H1 := ⟨k, fun a ⟨i, d, h1, h2⟩ => by
    obtain ⟨e, h3⟩ := l i d h1
    exact .inl ⟨i, e, h3, h2⟩⟩
theorem wd_next (h : E.nx env) : Wd g env tNext E := fun c L σ H S D n b k r => n σ H env S Fw.refl h
theorem wd_seq (h : Wd g env t { E with nx := fun e => Wd g e u E }) : Wd g env (tSeq t u) E := fun c L σ H S D n b k r =>
  h c L σ H S _ (fun σ1 H1 e1 S1 f1 w => w c L σ1 H1 S1 D (fun σ2 H2 e2 S2 f2 z => n σ2 H2 e2 S2 (f1.trans f2) z) (fun σ2 H2 e2 S2 f2 z => b σ2 H2 e2 S2 (f1.trans f2) z) (fun σ2 H2 e2 S2 f2 z => k σ2 H2 e2 S2 (f1.trans f2) z) fun x d H' p hb kf rv => r x d H' p hb (Fw.trans f1 ⟨kf, fun a z => .inl z⟩).1 rv) b k r
theorem wd_if (h : Eb g env tt fun b e => if b = true then Wd g e tu E else Wd g e tw E) : Wd g env (tIfS tt tu tw) E := fun c L σ H S D n b k r =>
  h c L σ H S _ fun v e1 H1 p S1 l1 k1 => by
    have go : ∀ {w : TS}, Wd g e1 w E → w D σ H1 := fun w => w c L σ H1 S1 D (fun σ2 H2 e2 S2 f2 z => n σ2 H2 e2 S2 ((fw_e l1 k1).trans f2) z) (fun σ2 H2 e2 S2 f2 z => b σ2 H2 e2 S2 ((fw_e l1 k1).trans f2) z) (fun σ2 H2 e2 S2 f2 z => k σ2 H2 e2 S2 ((fw_e l1 k1).trans f2) z) fun x d H' p hb kf rv => r x d H' p hb ((fw_e l1 k1).trans (σ2 := σ) (e2 := e1) ⟨kf, fun a z => .inl z⟩).1 rv
    cases v with
    | true => exact go p
    | false => exact go p
theorem wd_drop (h : Et g env te fun d e => E.nx e) : Wd g env (tDrop te) E := fun c L σ H S D n b k r =>
  h c L σ H S _ fun x d e1 H1 p S1 l1 k1 r1 => n σ H1 e1 S1 (fw_e l1 k1) p
theorem wd_ret (h : Et g env te fun d e => E.rt d) : Wd g env (tRet te) E := fun c L σ H S D n b k r =>
  h c L σ H S _ fun x d e1 H1 p S1 l1 k1 r1 => r x d H1 p S1.toHb k1 (r1.mono fun a z => .inl z)
theorem wd_retN (h : E.rt .non) : Wd g env tRetN E := fun c L σ H S D n b k r => r .non .non H h S.toHb Ko.refl .non
theorem wd_break (h : E.bk env) : Wd g env tBreak E := fun c L σ H S D n b k r => b σ H env S Fw.refl h
theorem wd_cont (h : E.ct env) : Wd g env tCont E := fun c L σ H S D n b k r => k σ H env S Fw.refl h
theorem wd_imp {E' : De} (h : Wd g env t E') (h1 : ∀ e, E'.nx e → E.nx e) (h2 : ∀ d, E'.rt d → E.rt d) (h3 : ∀ e, E'.bk e → E.bk e) (h4 : ∀ e, E'.ct e → E.ct e) : Wd g env t E := fun c L σ H S D n b k r =>
  h c L σ H S D (fun σ2 H2 e2 S2 f2 z => n σ2 H2 e2 S2 f2 (h1 _ z)) (fun σ2 H2 e2 S2 f2 z => b σ2 H2 e2 S2 f2 (h3 _ z)) (fun σ2 H2 e2 S2 f2 z => k σ2 H2 e2 S2 f2 (h4 _ z)) fun x d H' p => r x d H' (h2 _ p)
theorem wd_cut {Mid : List Sl → Prop} (h : Wd g env t { E with nx := Mid }) (k : ∀ e, Mid e → Wd g e u E) : Wd g env (tSeq t u) E := wd_seq (wd_imp h k (fun _ z => z) (fun _ z => z) fun _ z => z)
/-- a slot is set to a tree -/
theorem ow_set_v {i : Nat} {y : V} {a : Addr} (h : Ow (σ.set i (some y)) (env.set i (.v d)) a) : Ow σ env a := by
  obtain ⟨j, e, h1, h2⟩ := h
  rcases Sl.get_set h1 with ⟨_, z⟩ | ⟨n, z⟩
  · cases z
  · rw [List.getElem?_set, if_neg (Ne.symm n)] at h2
    exact ⟨j, e, z, h2⟩
theorem av_set_v {i : Nat} {y : V} (a : Addr) (h : Av c (σ.set i (some y)) (env.set i (.v d)) a) : Av c σ env a := by
  rcases h with h | h
  · exact .inl h
  · exact .inr (ow_set_v h)
theorem mv_set_v {i : Nat} {y : V} (a : Addr) (h : Mv c (σ.set i (some y)) (env.set i (.v d)) a) : Mv c σ env a := h.imp id ow_set_v
theorem Sv.set_v {i : Nat} (S : Sv g.K c H σ env) (r : Rv c.so (Av c σ env) H x d) : Sv g.K c H (σ.set i (some x)) (env.set i (.v d)) := by
  refine ⟨S.toHb, by rw [List.length_set, List.length_set, S.len], fun j k e f b z1 z2 z3 z4 => ?_, fun j e z => ?_, fun j e z => ?_⟩
  · rcases Sl.get_set z1 with ⟨_, z⟩ | ⟨n1, z1⟩
    · cases z
    · rcases Sl.get_set z2 with ⟨_, z⟩ | ⟨n2, z2⟩
      · cases z
      · rw [List.getElem?_set, if_neg (Ne.symm n1)] at z3
        rw [List.getElem?_set, if_neg (Ne.symm n2)] at z4
        exact S.uniq j k e f b z1 z2 z3 z4
  · rcases Sl.get_set z with ⟨ej, z'⟩ | ⟨n, z⟩
    · cases z'
      subst ej
      have hj : j < σ.length := by
        have := (List.getElem?_eq_some_iff.mp z).1
        rw [List.length_set] at this
        rw [S.len]
        exact this
      exact ⟨x, by rw [List.getElem?_set_self hj], r.mono av_set_v⟩
    · obtain ⟨y, k1, k2⟩ := S.tree j e z
      exact ⟨y, by rw [List.getElem?_set, if_neg (Ne.symm n)]; exact k1, k2.mono av_set_v⟩
  · rcases Sl.get_set z with ⟨_, z⟩ | ⟨n, z⟩
    · cases z
    · obtain ⟨y, k1, k2, k3, k4⟩ := S.own j e z
      exact ⟨y, by rw [List.getElem?_set, if_neg (Ne.symm n)]; exact k1, k2, k3, k4.mono av_set_v⟩
theorem wd_asg {i : Nat} (h : Et g env te fun d e => E.nx (e.set i (.v d))) : Wd g env (tAsg te (gName i)) E := fun c L σ H S D n b k r =>
  h c L σ H S _ fun x d e1 H1 p S1 l1 k1 r1 => n _ H1 _ (S1.set_v r1) ((fw_e l1 k1).trans ⟨Ko.refl, fun a z => .inl (ow_set_v z)⟩) p
/-- a slot is set to a fresh list or dict of the def's own -/
theorem ow_set_o {i : Nat} {p a : Addr} (h : Ow (σ.set i (some (.ref p))) (env.set i (.own d)) a) : Ow σ env a ∨ a = p := by
  obtain ⟨j, e, h1, h2⟩ := h
  rcases Sl.get_set h1 with ⟨ej, z⟩ | ⟨n, z⟩
  · subst ej
    rw [List.getElem?_set] at h2
    split at h2
    · split at h2
      · cases h2; exact .inr rfl
      · cases h2
    · rename_i q; exact absurd rfl q
  · rw [List.getElem?_set, if_neg (Ne.symm n)] at h2
    exact .inl ⟨j, e, z, h2⟩
theorem av_set_o {i : Nat} {p : Addr} (a : Addr) (h : Av c (σ.set i (some (.ref p))) (env.set i (.own d)) a) : Av (c.add p) σ env a := by
  rcases h with h | h
  · exact .inl (.inl h)
  · rcases ow_set_o h with h | h
    · exact .inr h
    · exact .inl (.inr h)
theorem Sv.set_o {i : Nat} {p : Addr} (S : Sv g.K (c.add p) H σ env) (hs : SO c) (hp : ¬ c.O p) (hB : c.B p = none) (o : Ol c.so (Av (c.add p) σ env) H p d) : Sv g.K c H (σ.set i (some (.ref p))) (env.set i (.own d)) := by
  have nop : ∀ j e, env[j]? = some (Sl.own e) → σ[j]? ≠ some (some (V.ref p)) := fun j e h z => by
    obtain ⟨y, k1, _, k3, _⟩ := S.own j e h
    rw [z] at k1
    cases k1
    exact k3 (.inr rfl)
  refine ⟨S.toHb.less hs, by rw [List.length_set, List.length_set, S.len], fun j k e f b z1 z2 z3 z4 => ?_, fun j e z => ?_, fun j e z => ?_⟩
  · rcases Sl.get_set z1 with ⟨n1, _⟩ | ⟨n1, w1⟩
    · rcases Sl.get_set z2 with ⟨n2, _⟩ | ⟨n2, w2⟩
      · rw [n1, n2]
      · rw [List.getElem?_set, if_neg (Ne.symm n2)] at z4
        subst n1
        rw [List.getElem?_set] at z3
        simp only [if_true] at z3
        split at z3
        · cases z3
          exact absurd z4 (nop k f w2)
        · cases z3
    · rcases Sl.get_set z2 with ⟨n2, _⟩ | ⟨n2, w2⟩
      · rw [List.getElem?_set, if_neg (Ne.symm n1)] at z3
        subst n2
        rw [List.getElem?_set] at z4
        simp only [if_true] at z4
        split at z4
        · cases z4
          exact absurd z3 (nop j e w1)
        · cases z4
      · rw [List.getElem?_set, if_neg (Ne.symm n1)] at z3
        rw [List.getElem?_set, if_neg (Ne.symm n2)] at z4
        exact S.uniq j k e f b w1 w2 z3 z4
  · rcases Sl.get_set z with ⟨_, z⟩ | ⟨n, z⟩
    · cases z
    · obtain ⟨y, k1, k2⟩ := S.tree j e z
      exact ⟨y, by rw [List.getElem?_set, if_neg (Ne.symm n)]; exact k1, k2.mono av_set_o⟩
  · rcases Sl.get_set z with ⟨ej, z'⟩ | ⟨n, z⟩
    · cases z'
      subst ej
      have hj : j < σ.length := by
        have := (List.getElem?_eq_some_iff.mp z).1
        rw [List.length_set] at this
        rw [S.len]
        exact this
      exact ⟨p, by rw [List.getElem?_set_self hj], hB, hp, o.mono av_set_o⟩
    · obtain ⟨y, k1, k2, k3, k4⟩ := S.own j e z
      exact ⟨y, by rw [List.getElem?_set, if_neg (Ne.symm n)]; exact k1, k2, fun q => k3 (.inl q), k4.mono av_set_o⟩
theorem base_none (S : Sv g.K c H σ env) {p : Addr} (hp : H p = none) : c.B p = none := S.base.back hp
theorem wd_asgO {i : Nat} (h : Ef g env te fun d e => E.nx (e.set i (.own d))) : Wd g env (tAsg te (gName i)) E := fun c L σ H S D n b k r =>
  h c L σ H S _ fun p d e1 H1 q S1 l1 k1 hp o => n _ H1 _ (S1.set_o S.sO (fun z => S.dom p z hp) (base_none S hp) o) ⟨k1, fun a z => by
    rcases ow_set_o z with z | z
    · exact (fw_e l1 k1).2 a z
    · exact .inr (by rw [z]; exact hp)⟩ q
/-- an own list or dict is changed -/
theorem ow_put {i : Nat} {e : Dt} {a : Addr} (h : env[i]? = some (Sl.own d)) : Ow σ (env.set i (.own e)) a ↔ Ow σ env a := by
  constructor
  · rintro ⟨j, f, h1, h2⟩
    rcases Sl.get_set h1 with ⟨ej, _⟩ | ⟨_, z⟩
    · exact ⟨j, d, by rw [ej]; exact h, h2⟩
    · exact ⟨j, f, z, h2⟩
  · rintro ⟨j, f, h1, h2⟩
    by_cases ej : i = j
    · subst ej
      exact ⟨i, e, by rw [List.getElem?_set_self (List.getElem?_eq_some_iff.mp h).1], h2⟩
    · exact ⟨j, f, by rw [List.getElem?_set, if_neg ej]; exact h1, h2⟩
theorem av_put {i : Nat} {e : Dt} {a : Addr} (h : env[i]? = some (Sl.own d)) : Av c σ (env.set i (.own e)) a ↔ Av c σ env a := by
  constructor
  · rintro (z | z)
    · exact .inl z
    · exact .inr ((ow_put h).mp z)
  · rintro (z | z)
    · exact .inl z
    · exact .inr ((ow_put h).mpr z)
theorem Ol.nofrz {so : Option Addr} {O : Addr → Prop} {a : Addr} {od : Obj} {u : HO} (h : Ol so O H a d) (z : H a = Option.some (HO.frz od u)) : False := by
  cases d with
  | lst ds => obtain ⟨xs, h1, _⟩ := h; rw [h1] at z; cases z
  | dct ds => obtain ⟨xs, h1, _⟩ := h; rw [h1] at z; cases z
  | dtn hs ds => obtain ⟨xs, h1, _⟩ := h; rw [h1] at z; cases z
  | _ => exact h.elim
theorem Sv.put {i : Nat} {p : Addr} {o : HO} {e : Dt} (S : Sv g.K c H σ env) (h : env[i]? = some (Sl.own d)) (hp : σ[i]? = some (some (V.ref p))) (k : Ol c.so (Av c σ env) (upd H p o) p e) : Sv g.K c (upd H p o) σ (env.set i (.own e)) := by
  obtain ⟨y, h1, h2, h3, h4⟩ := S.own i d h
  rw [hp] at h1
  cases h1
  have ko : Ko (Av c σ env) c.O H (upd H p o) := Ko.mut (.inr ⟨i, d, h, hp⟩)
  have av : ∀ a, Av c σ (env.set i (.own e)) a → Av c σ env a := fun a z => (av_put h).mp z
  refine ⟨⟨⟨fun a u n z => ?_, fun a z => upd_some (S.base.2 a z)⟩, S.lkb, S.sO, fun a z => upd_some (S.dom a z), S.stt.put (fun s hs => ⟨fun z => h3 (by rw [z]; exact (S.sO s (.inl hs)).1), fun z => h3 (by rw [z]; exact (S.sO s (.inl hs)).2 s hs)⟩) h4.pl⟩, by rw [S.len, List.length_set], fun j k e' f b z1 z2 z3 z4 => ?_, fun j e' z => ?_, fun j e' z => ?_⟩
  · have ne : a ≠ p := fun q => by rw [q, h2] at z; cases z
    rw [upd_ne ne]
    exact S.base.1 a u n z
  · obtain ⟨d1, w1⟩ : ∃ d1, env[j]? = some (Sl.own d1) := by
      rcases Sl.get_set z1 with ⟨ej, _⟩ | ⟨_, z⟩
      · exact ⟨d, by rw [ej]; exact h⟩
      · exact ⟨_, z⟩
    obtain ⟨d2, w2⟩ : ∃ d2, env[k]? = some (Sl.own d2) := by
      rcases Sl.get_set z2 with ⟨ej, _⟩ | ⟨_, z⟩
      · exact ⟨d, by rw [ej]; exact h⟩
      · exact ⟨_, z⟩
    exact S.uniq j k d1 d2 b w1 w2 z3 z4
  · rcases Sl.get_set z with ⟨_, z⟩ | ⟨_, z⟩
    · cases z
    · obtain ⟨y, k1, k2⟩ := S.tree j e' z
      exact ⟨y, k1, (k2.keep ko).mono av⟩
  · rcases Sl.get_set z with ⟨ej, z⟩ | ⟨n, z⟩
    · cases z
      subst ej
      exact ⟨p, hp, h2, h3, k.mono av⟩
    · obtain ⟨y, k1, k2, k3, k4⟩ := S.own j e' z
      exact ⟨y, k1, k2, k3, (k4.keep ko (upd_ne fun q => n (S.uniq j i e' d y z h k1 (by rw [q]; exact hp)))).mono av⟩
theorem fw_put {i : Nat} {p : Addr} {o : HO} {e : Dt} (h : env[i]? = some (Sl.own d)) (hp : σ[i]? = some (some (V.ref p))) : Fw c σ env H σ (env.set i (.own e)) (upd H p o) :=
  ⟨Ko.mut (.inr ⟨i, d, h, hp⟩), fun a z => .inl ((ow_put h).mp z)⟩
/-- found.append(e) -/
theorem wd_app {i : Nat} {ds0 : List Dt} (h0 : env[i]? = some (Sl.own (.lst ds0))) (h : Et g env te fun d e => ∃ ds, e[i]? = some (Sl.own (.lst ds)) ∧ ds.length < Zz ∧ E.nx (e.set i (.own (.lst (ds ++ [d]))))) :
    Wd g env (tDrop (tBM g.K "list" rAppend (tVar i) (tCons te tNil))) E := fun c L σ H S D n b k r => by
  obtain ⟨p, h1, _, _, xs, h4, _⟩ := S.own i _ h0
  refine ⟨.ref p, h1, .inl ⟨rfl, xs, sq_of h4⟩, h c L σ H S _ fun x d e1 H1 ⟨ds, hd, hl, q⟩ S1 l1 k1 r1 => ?_⟩
  obtain ⟨p', w1, _, _, ys, w4, w5, w6, w7⟩ := S1.own i _ hd
  rw [h1] at w1
  cases w1
  have hp : Av c σ e1 p := .inr ⟨i, _, hd, h1⟩
  refine ⟨p, ys, x, rfl, rfl, w4, Nat.lt_of_lt_of_le (by rw [w5]; exact hl) (by decide), n σ _ _ (S1.put (e := .lst (ds ++ [d])) hd h1 ⟨ys ++ [x], upd_same, by simp [w5], by rw [List.length_append]; exact hl, fun j y t z1 z2 => ?_⟩) ((fw_e l1 k1).trans (fw_put hd h1)) q⟩
  rw [List.getElem?_append] at z1 z2
  by_cases hj : j < ys.length
  · rw [if_pos hj] at z1
    rw [if_pos (by rw [← w5]; exact hj)] at z2
    exact (w7 j y t z1 z2).keep (A := c.O) (Ko.mut hp)
  · rw [if_neg hj] at z1
    rw [if_neg (by rw [← w5]; exact hj)] at z2
    rw [← w5] at z2
    cases hq : j - ys.length with
    | zero => rw [hq] at z1 z2; cases z1; cases z2; exact r1.keep (A := c.O) (Ko.mut hp)
    | succ m => rw [hq] at z1; simp at z1
/-! ### what is walked -/
structure Wk (so : Option Addr) (A : Addr → Prop) (J : It) (ds : List Dt) (H1 : Hp) : Prop where
  len : ds.length ≤ Zz
  go : ∀ i H', i < ds.length → Ko A A H1 H' → J.go i H'
  stop : ∀ H', Ko A A H1 H' → J.stop ds.length H'
  yld : ∀ (O' : Addr → Prop) i H' x H'', i < ds.length → Ko A A H1 H' → (∀ a, O' a → A a ∨ H1 a = none) → (∀ a, O' a → H' a ≠ none) → J.yld i H' x H'' → Ex H' H'' ∧ ∃ d, ds[i]? = some d ∧ Rv so O' H'' x d
def Ei (g : Gx) (env : List Sl) (wi : TI) (P : List Dt → List Sl → Prop) : Prop := ∀ c, Lk g c → ∀ σ H, Sv g.K c H σ env → ∀ R : It → Hp → Prop,
  (∀ J ds e1 H1, P ds e1 → Sv g.K c H1 σ e1 → Le e1 env → Ko (Mv c σ env) (An c σ env) H H1 → Wk c.so (Av c σ e1) J ds H1 → R J H1) → wi σ H R
/-- a target takes a tree -/
def Tg (g : Gx) (env : List Sl) (gt : TG) (d : Dt) (P : List Sl → Prop) : Prop := ∀ c σ H x, Sv g.K c H σ env → Rv c.so (Av c σ env) H x d → ∀ Q : L2.St → Hp → Prop, (∀ σ' env', Sv g.K c H σ' env' → Fw c σ env H σ' env' H → P env' → Q σ' H) → gt x σ H Q
theorem tg_name {i : Nat} {P : List Sl → Prop} (h : P (env.set i (.v d))) : Tg g env (gName i) d P := fun c σ H x S r Q q => q _ _ (S.set_v r) ⟨Ko.refl, fun a z => .inl (ow_set_v z)⟩ h
theorem wd_for {wi : TI} {gt : TG} (h : Ei g env wi fun ds e1 => ∃ I : Nat → List Sl → Prop, I 0 e1 ∧ (∀ i d e, ds[i]? = some d → I i e → Tg g e gt d fun e2 => Wd g e2 tu { nx := I (i + 1), ct := I (i + 1), bk := E.nx, rt := E.rt }) ∧ ∀ e, I ds.length e → E.nx e) :
    Wd g env (tFor wi gt tu) E := fun c L σ H S D n b k r => by
  refine h c L σ H S _ fun J ds e1 H1 ⟨I, i0, hs, hd⟩ S1 l1 k1 w => ?_
  refine ⟨fun i m σ' H' => m = ds.length - i ∧ i ≤ ds.length ∧ ∃ env', Sv g.K c H' σ' env' ∧ Fw c σ e1 H1 σ' env' H' ∧ I i env', ⟨_, rfl, Nat.zero_le _, e1, S1, Fw.refl, i0⟩, ?_⟩
  rintro i m σ' H' ⟨rfl, hi, env', S', f', hI⟩
  by_cases hlt : i < ds.length
  · refine .inr ⟨w.go i H' hlt (f'.1.mono (Mv.av S.sO) fun _ z => .inr z), fun σ2 H2 => ∃ env2, Sv g.K c H2 σ2 env2 ∧ Fw c σ e1 H1 σ2 env2 H2 ∧ I (i + 1) env2, fun σ2 H2 z => ⟨ds.length - (i + 1), by omega, rfl, hlt, z⟩, fun x H'' y => ?_⟩
    obtain ⟨e, d, ed, rd'⟩ := w.yld (Av c σ' env') i H' x H'' hlt (f'.1.mono (Mv.av S.sO) fun _ z => .inr z) (fun a z => by
      rcases z with z | z
      · exact .inl (.inl z)
      · exact (f'.2 a z).imp .inr id) S'.lk_av y
    have S'' := S'.ex e
    have f'' : Fw c σ e1 H1 σ' env' H'' := f'.trans ⟨Ko.ex e, fun a z => .inl z⟩
    refine hs i d env' ed hI c σ' H'' x S'' rd' _ fun σ2 e2 S2 f2 wd => ?_
    refine wd c L σ2 H'' S2 _ (fun σ3 H3 e3 S3 f3 z => ⟨e3, S3, (f''.trans f2).trans f3, z⟩) (fun σ3 H3 e3 S3 f3 z => n σ3 H3 e3 S3 ((fw_e l1 k1).trans ((f''.trans f2).trans f3)) z) (fun σ3 H3 e3 S3 f3 z => ⟨e3, S3, (f''.trans f2).trans f3, z⟩) fun x d H' p hb kf rv => r x d H' p hb (((fw_e l1 k1).trans (f''.trans f2)).trans (σ2 := σ2) (e2 := e2) ⟨kf, fun a z => .inl z⟩).1 rv
  · have : i = ds.length := by omega
    subst this
    exact .inl ⟨w.stop H' (f'.1.mono (Mv.av S.sO) fun _ z => .inr z), n σ' H' env' S' ((fw_e l1 k1).trans f') (hd _ hI)⟩
end
end Wv
/-! Calls, fields, dicts over trees. -/
namespace Wv
open PySem L2 Evl
/-! ### tables of trees -/
def dlk (kvs : List (Key × Dt)) (k : Key) : Option Dt := (kvs.find? fun kv => decide (kv.1 = k)).map (·.2)
def dpt (kvs : List (Key × Dt)) (k : Key) (v : Dt) : List (Key × Dt) :=
  if (kvs.any fun kv => decide (kv.1 = k)) = true then kvs.map (fun kv => if kv.1 = k then (kv.1, v) else kv) else kvs ++ [(k, v)]
section
variable {α : Type} [DecidableEq α] {so : Option Addr} {O : Addr → Prop} {H : Hp}
/-- the same keys, the values trees -/
def Tb (so : Option Addr) (O : Addr → Prop) (H : Hp) (xs : List (α × V)) (ds : List (α × Dt)) : Prop := xs.map (·.1) = ds.map (·.1) ∧ ∀ (i : Nat) k x k' d, xs[i]? = some (k, x) → ds[i]? = some (k', d) → Rv so O H x d
theorem Tb.tail {p : α × V} {q : α × Dt} {xs : List (α × V)} {ds : List (α × Dt)} (h : Tb so O H (p :: xs) (q :: ds)) : p.1 = q.1 ∧ Rv so O H p.2 q.2 ∧ Tb so O H xs ds := by
  obtain ⟨h1, h2⟩ := h
  simp only [List.map_cons, List.cons.injEq] at h1
  exact ⟨h1.1, h2 0 p.1 p.2 q.1 q.2 rfl rfl, h1.2, fun i k x k' d e1 e2 => h2 (i + 1) k x k' d e1 e2⟩
theorem Tb.cons {k : α} {x : V} {d : Dt} {xs : List (α × V)} {ds : List (α × Dt)} (r : Rv so O H x d) (h : Tb so O H xs ds) : Tb so O H ((k, x) :: xs) ((k, d) :: ds) := ⟨by simp [h.1], fun i k1 y k2 e e1 e2 => by
  cases i with
  | zero => cases e1; cases e2; exact r
  | succ i => exact h.2 i _ _ _ _ e1 e2⟩
theorem Tb.nil : Tb so O H ([] : List (α × V)) [] := ⟨rfl, fun i k x k' d h => by simp at h⟩
theorem Tb.len {xs : List (α × V)} {ds : List (α × Dt)} (h : Tb so O H xs ds) : xs.length = ds.length := by
  have := congrArg List.length h.1
  simpa using this
theorem Tb.keep {H' : Hp} {A : Addr → Prop} {xs : List (α × V)} {ds : List (α × Dt)} (h : Tb so O H xs ds) (k : Ko O A H H') : Tb so O H' xs ds := ⟨h.1, fun i a x b d e1 e2 => (h.2 i a x b d e1 e2).keep k⟩
theorem Tb.mono {O' : Addr → Prop} {xs : List (α × V)} {ds : List (α × Dt)} (h : Tb so O H xs ds) (k : ∀ a, O' a → O a) : Tb so O' H xs ds := ⟨h.1, fun i a x b d e1 e2 => (h.2 i a x b d e1 e2).mono k⟩
theorem Tb.lookup {f : Str} : ∀ {xs : List (Str × V)} {ds : List (Str × Dt)} {t : Dt}, Tb so O H xs ds → ds.lookup f = some t → ∃ x, xs.lookup f = some x ∧ Rv so O H x t
  | [], [], _, _, e => by simp at e
  | [], _ :: _, _, h, _ => by have := h.len; simp at this
  | _ :: _, [], _, h, _ => by have := h.len; simp at this
  | p :: xs, q :: ds, t, h, e => by
    obtain ⟨h1, h2, h3⟩ := h.tail
    obtain ⟨a, x⟩ := p
    obtain ⟨b, d⟩ := q
    simp only at h1
    subst h1
    rw [List.lookup_cons] at e ⊢
    cases hf : f == a with
    | true => rw [hf] at e; cases e; exact ⟨x, rfl, h2⟩
    | false => rw [hf] at e; exact Tb.lookup h3 e
theorem Tb.lookup_none {f : Str} : ∀ {xs : List (Str × V)} {ds : List (Str × Dt)}, Tb so O H xs ds → ds.lookup f = none → xs.lookup f = none
  | [], _, _, _ => rfl
  | _ :: _, [], h, _ => by have := h.len; simp at this
  | p :: xs, q :: ds, h, e => by
    obtain ⟨h1, h2, h3⟩ := h.tail
    obtain ⟨a, x⟩ := p
    obtain ⟨b, d⟩ := q
    simp only at h1
    subst h1
    rw [List.lookup_cons] at e ⊢
    cases hf : f == a with
    | true => rw [hf] at e; cases e
    | false => rw [hf] at e; exact Tb.lookup_none h3 e
theorem dlk_pos {p : Key × Dt} {r : List (Key × Dt)} {k : Key} (e : p.1 = k) : dlk (p :: r) k = some p.2 := by simp [dlk, List.find?_cons, e]
theorem dlk_neg {p : Key × Dt} {r : List (Key × Dt)} {k : Key} (e : ¬ p.1 = k) : dlk (p :: r) k = dlk r k := by simp [dlk, List.find?_cons, e]
theorem Tb.val {k : Key} : ∀ {xs : List (Key × V)} {ds : List (Key × Dt)}, Tb so O H xs ds → match dlk ds k with
    | some t => ∃ x, valV xs k = some x ∧ Rv so O H x t
    | none => valV xs k = none
  | [], [], _ => rfl
  | [], _ :: _, h => by have := h.len; simp at this
  | _ :: _, [], h => by have := h.len; simp at this
  | p :: xs, q :: ds, h => by
    obtain ⟨h1, h2, h3⟩ := h.tail
    by_cases e : q.1 = k
    · rw [dlk_pos e]
      exact ⟨p.2, valV_pos (h1.trans e), h2⟩
    · rw [dlk_neg e, valV_neg (fun z => e (h1.symm.trans z))]
      exact Tb.val h3
theorem Tb.any {k : Key} : ∀ {xs : List (Key × V)} {ds : List (Key × Dt)}, Tb so O H xs ds → (xs.any fun kv => decide (kv.1 = k)) = ds.any fun kv => decide (kv.1 = k)
  | [], [], _ => rfl
  | [], _ :: _, h => by have := h.len; simp at this
  | _ :: _, [], h => by have := h.len; simp at this
  | p :: xs, q :: ds, h => by
    obtain ⟨h1, h2, h3⟩ := h.tail
    rw [List.any_cons, List.any_cons, h1, Tb.any h3]
theorem Tb.app {xs ys : List (α × V)} {ds es : List (α × Dt)} (h : Tb so O H xs ds) (k : Tb so O H ys es) : Tb so O H (xs ++ ys) (ds ++ es) := by
  induction xs generalizing ds with
  | nil =>
    cases ds with
    | nil => exact k
    | cons => have := h.len; simp at this
  | cons p xs ih =>
    cases ds with
    | nil => have := h.len; simp at this
    | cons q ds =>
      obtain ⟨h1, h2, h3⟩ := h.tail
      obtain ⟨a, x⟩ := p
      obtain ⟨b, d⟩ := q
      simp only at h1
      subst h1
      exact Tb.cons h2 (ih h3)
theorem Tb.map {k : Key} {x : V} {d : Dt} (r : Rv so O H x d) : ∀ {xs : List (Key × V)} {ds : List (Key × Dt)}, Tb so O H xs ds → Tb so O H (xs.map fun kv => if kv.1 = k then (kv.1, x) else kv) (ds.map fun kv => if kv.1 = k then (kv.1, d) else kv)
  | [], [], _ => Tb.nil
  | [], _ :: _, h => by have := h.len; simp at this
  | _ :: _, [], h => by have := h.len; simp at this
  | p :: xs, q :: ds, h => by
    obtain ⟨h1, h2, h3⟩ := h.tail
    obtain ⟨a, y⟩ := p
    obtain ⟨b, e⟩ := q
    simp only at h1
    subst h1
    rw [List.map_cons, List.map_cons]
    by_cases z : a = k
    · simp only [z, if_true]
      exact Tb.cons r (Tb.map r h3)
    · simp only [z, if_false]
      exact Tb.cons h2 (Tb.map r h3)
theorem Tb.put {k : Key} {x : V} {d : Dt} (r : Rv so O H x d) {xs : List (Key × V)} {ds : List (Key × Dt)} (h : Tb so O H xs ds) : Tb so O H (putK xs k x) (dpt ds k d) := by
  unfold putK dpt
  rw [h.any]
  split
  · exact h.map r
  · exact h.app (Tb.cons r Tb.nil)
theorem dpt_len (ds : List (Key × Dt)) (k : Key) (d : Dt) : (dpt ds k d).length ≤ ds.length + 1 := by
  unfold dpt
  split
  · rw [List.length_map]; omega
  · rw [List.length_append]; exact Nat.le_refl _
end
section
variable {g : Gx} {c : Cc} {H H1 H2 H' : Hp} {σ : L2.St} {env e1 : List Sl} {ta tb te td ty tv tx : TE} {tt : TT} {t u tu tw : TS} {P : Dt → List Sl → Prop} {x : V} {d : Dt} {E : De}
/-! ### calls -/
abbrev Rd3 := List Dt → (Dt → Prop) → (Addr → List (Str × Dt) → Prop) → Prop
/-- a promise told of trees -/
def spW (K : PySem.W.Frag) (lk : Bool) (R : Rd3) : Sp := fun vs H Q E => ∃ (so : Option Addr) (cc : Ct) (O : Addr → Prop) (ds : List Dt) (P : Dt → Prop) (xe : Addr → List (Str × Dt) → Prop),
  Hb K ⟨H, so, cc, O, lk, lk⟩ H ∧ Rvs so O H vs ds ∧ R ds P xe ∧ (∀ x d H', P d → Hb K ⟨H, so, cc, O, lk, lk⟩ H' → Rv so O H' x d → Q x H') ∧ Lk ⟨K, E, xe, lk, []⟩ ⟨H, so, cc, O, lk, lk⟩
/-- a callee may lock only where its caller may -/
def lkle (lk lk' : Bool) : Prop := lk = true → lk' = true
theorem Hb.av {lk : Bool} (S : Sv g.K c H σ env) : Hb g.K ⟨H, c.so, c.cc, Av c σ env, lk, lk⟩ H :=
  ⟨Ko.refl, id, fun a h => ⟨.inl (S.sO a h).1, fun s z => .inl ((S.sO a h).2 s z)⟩, S.lk_av, S.stt⟩
/-- behind a call -/
theorem Sv.call {lk : Bool} (S : Sv g.K c H σ env) (hk : lkle lk c.lk) (b : Hb g.K ⟨H, c.so, c.cc, Av c σ env, lk, lk⟩ H') : Sv g.K c H' σ env ∧ Ko (Mv c σ env) (An c σ env) H H' := by
  have k : Ko (fun a => Chg c.so c.cc a) (fun a => lk = false ∨ Av c σ env a) H H' := b.base
  have kk : ∀ a, An c σ env a → lk = false ∨ Av c σ env a := fun a z => by
    cases lk with
    | false => exact .inl rfl
    | true => exact .inr (z.elim (fun z => by rw [hk rfl] at z; cases z) id)
  have ka : Ko (Mv c σ env) (An c σ env) H H' := k.mono (fun a z => .inl z) kk
  refine ⟨⟨⟨S.base.trans (k.mono (fun a z => z) fun a z => ?_), S.lkb, S.sO, fun a z => k.2 a (S.dom a z), b.stt⟩, S.len, S.uniq, fun i d z => ?_, fun i d z => ?_⟩, ka⟩
  · exact z.elim (fun z => kk a (.inl (by
      cases e : c.lk with
      | false => rfl
      | true => rw [S.lkb e] at z; cases z))) fun z => .inr (.inl z)
  · obtain ⟨y, z1, z2⟩ := S.tree i d z
    exact ⟨y, z1, S.kp z2 ka⟩
  · obtain ⟨y, z1, z2, z3, z4⟩ := S.own i d z
    exact ⟨y, z1, z2, z3, z4.keep (ka.mono (Mv.av S.sO) fun _ z => z) (k.same (fun q => z3 (S.sO y q).1) (.inr (.inr ⟨i, d, z, z1⟩)) z4.some)⟩
/-- what leaves a callee leaves the caller -/
theorem Lk.call {lk : Bool} (L : Lk g c) (S : Sv g.K c H σ env) (hk : lkle lk g.lk) : Lk ⟨g.K, g.E, g.xe, lk, []⟩ ⟨H, c.so, c.cc, Av c σ env, lk, lk⟩ := ⟨rfl, fun C fs hx H' d xs hb h1 h2 h3 =>
  L.2.1 C fs hx H' d xs (S.call (by rw [← L.1]; exact hk) hb).1.toHb h1 h2 fun i k x k' t e1 e2 => (h3 i k x k' t e1 e2).mono fun a z => .inl z, .inl rfl⟩
theorem Lk.none {K : PySem.W.Frag} {E : XK} {lk : Bool} {B : Hp} {so : Option Addr} {cc : Ct} {O : Addr → Prop} : Lk ⟨K, E, fun _ _ => False, lk, []⟩ ⟨B, so, cc, O, lk, lk⟩ := ⟨rfl, fun C fs z => z.elim, .inl rfl⟩
theorem et_call {R : Rd3} {lk : Bool} {ta : TA} (hlk : lkle lk g.lk) (h : Ea g env ta fun ds e1 => R ds (fun t => P t e1) g.xe) : Et g env (tCall (spW g.K lk R) [] g.E ta) P := fun c L σ H S Q q =>
  h c L σ H S _ fun xs ds e1 H1 p S1 l1 k1 r1 => ⟨c.so, c.cc, Av c σ e1, ds, _, _, Hb.av S1, by rw [List.append_nil]; exact r1, p, fun x d H' pd hb r => q x d e1 H' pd (S1.call (by rw [← L.1]; exact hlk) hb).1 l1 (k1.trans ((S1.call (by rw [← L.1]; exact hlk) hb).2.le l1)) r, L.call S1 hlk⟩
theorem et_call0 {R : Rd3} {lk : Bool} {E : XK} {ta : TA} (hlk : lkle lk g.lk) (h : Ea g env ta fun ds e1 => R ds (fun t => P t e1) fun _ _ => False) : Et g env (tCall (spW g.K lk R) [] E ta) P := fun c L σ H S Q q =>
  h c L σ H S _ fun xs ds e1 H1 p S1 l1 k1 r1 => ⟨c.so, c.cc, Av c σ e1, ds, _, _, Hb.av S1, by rw [List.append_nil]; exact r1, p, fun x d H' pd hb r => q x d e1 H' pd (S1.call (by rw [← L.1]; exact hlk) hb).1 l1 (k1.trans ((S1.call (by rw [← L.1]; exact hlk) hb).2.le l1)) r, Lk.none⟩
theorem et_meth {R : Rd3} {lk : Bool} {C : Addr} {m : Str} {ta : TA} (hlk : lkle lk g.lk) (h : Et g env te fun d e => ∃ fs, d = .ins C fs ∧ fs.lookup m = none ∧ Ea g e ta fun ds e1 => R (d :: ds) (fun t => P t e1) g.xe) : Et g env (tMeth C m (spW g.K lk R) [] g.E te ta) P := fun c L σ H S Q q =>
  h c L σ H S _ fun x d e H1 ⟨fs, e0, hm, p⟩ S1 l1 k1 r1 => by
    subst e0
    cases r1 with
    | ins ho h0 hk he =>
      have tb : Tb c.so (Av c σ e) H1 _ fs := ⟨hk, he⟩
      refine ⟨_, _, _, rfl, h0, tb.lookup_none hm, p c L σ H1 S1 _ fun xs ds e1 H2 p2 S2 l2 k2 r2 => ?_⟩
      refine ⟨c.so, c.cc, Av c σ e1, _, _, _, Hb.av S2, ?_, p2, fun x d H' pd hb r => q x d e1 H' pd (S2.call (by rw [← L.1]; exact hlk) hb).1 (l1.trans l2) ((k1.trans (k2.le l1)).trans ((S2.call (by rw [← L.1]; exact hlk) hb).2.le (l1.trans l2))) r, L.call S2 hlk⟩
      rw [List.append_nil]
      exact Rvs.cons ((S1.kp (Rv.ins ho h0 hk he) k2).mono (Av.le l2)) r2
theorem et_meth0 {R : Rd3} {lk : Bool} {C : Addr} {m : Str} {E : XK} {ta : TA} (hlk : lkle lk g.lk) (h : Et g env te fun d e => ∃ fs, d = .ins C fs ∧ fs.lookup m = none ∧ Ea g e ta fun ds e1 => R (d :: ds) (fun t => P t e1) fun _ _ => False) : Et g env (tMeth C m (spW g.K lk R) [] E te ta) P := fun c L σ H S Q q =>
  h c L σ H S _ fun x d e H1 ⟨fs, e0, hm, p⟩ S1 l1 k1 r1 => by
    subst e0
    cases r1 with
    | ins ho h0 hk he =>
      have tb : Tb c.so (Av c σ e) H1 _ fs := ⟨hk, he⟩
      refine ⟨_, _, _, rfl, h0, tb.lookup_none hm, p c L σ H1 S1 _ fun xs ds e1 H2 p2 S2 l2 k2 r2 => ?_⟩
      refine ⟨c.so, c.cc, Av c σ e1, _, _, _, Hb.av S2, ?_, p2, fun x d H' pd hb r => q x d e1 H' pd (S2.call (by rw [← L.1]; exact hlk) hb).1 (l1.trans l2) ((k1.trans (k2.le l1)).trans ((S2.call (by rw [← L.1]; exact hlk) hb).2.le (l1.trans l2))) r, Lk.none⟩
      rw [List.append_nil]
      exact Rvs.cons ((S1.kp (Rv.ins ho h0 hk he) k2).mono (Av.le l2)) r2
theorem et_fld {C : Addr} {f : Str} (cl : Cls g.K C) (na : NoAttr g.K C f) (h : Et g env ta fun d e => ∃ fs t, d = .ins C fs ∧ fs.lookup f = some t ∧ P t e) : Et g env (tFld g.K ta f) P := fun c L σ H S Q q =>
  h c L σ H S _ fun x d e H1 ⟨fs, t, e0, hf, p⟩ S1 l1 k1 r1 => by
    subst e0
    cases r1 with
    | ins ho h0 hk he =>
      have tb : Tb c.so (Av c σ e) H1 _ fs := ⟨hk, he⟩
      obtain ⟨y, z1, z2⟩ := tb.lookup hf
      exact ⟨_, C, _, _, y, rfl, h0, cl, na, z1, q y t e H1 p S1 l1 k1 z2⟩
/-- a body starts -/
theorem w_start {K : PySem.W.Frag} {R : Rd3} {lk : Bool} {N : List Str} {vs : List V} {Q : VK} {E : XK} (h : spW K lk R vs H Q E) (n : Nat) (hN : N.length = n)
    (hw : ∀ ds P xe, R ds P xe → ds.length ≤ n ∧ Wd ⟨K, E, xe, lk, []⟩ (ds.map Sl.v ++ List.replicate (n - ds.length) .no) t { nx := fun _ => P .non, rt := P }) : t { nx := fun _ H' => Q .non H', rt := Q } (L2.start N vs) H := by
  obtain ⟨so, cc, O, ds, P, xe, hb, rs, hR, hQ, L⟩ := h
  subst hN
  have hl := rs.1
  obtain ⟨hle, hw⟩ := hw ds P xe hR
  have own : ∀ (i : Nat) (d : Dt), (ds.map Sl.v ++ List.replicate (N.length - ds.length) Sl.no)[i]? ≠ some (Sl.own d) := fun i d z => by
    rw [List.getElem?_append] at z
    split at z
    · rw [List.getElem?_map] at z
      cases e : ds[i]? with
      | none => rw [e] at z; cases z
      | some y => rw [e] at z; cases z
    · rw [List.getElem?_replicate] at z
      split at z <;> cases z
  have noav : ∀ a, Av ⟨H, so, cc, O, lk, lk⟩ (L2.start N vs) (ds.map Sl.v ++ List.replicate (N.length - ds.length) .no) a → O a := fun a z => by
    rcases z with z | ⟨i, d, z, _⟩
    · exact z
    · exact absurd z (own i d)
  refine hw ⟨H, so, cc, O, lk, lk⟩ L (L2.start N vs) H ⟨hb, ?_, fun i j d e a z => absurd z (own i d), fun i d z => ?_, fun i d z => absurd z (own i d)⟩ _ (fun σ' H' e' S' _ p => hQ .non .non H' p S'.toHb .non) (fun _ _ _ _ _ z => z.elim) (fun _ _ _ _ _ z => z.elim) fun x d H' p hb _ r => hQ x d H' p hb r
  · unfold L2.start
    simp [hl]
  · rw [List.getElem?_append] at z
    split at z
    · rename_i hi
      rw [List.getElem?_map] at z
      cases e : ds[i]? with
      | none => rw [e] at z; cases z
      | some y =>
        rw [e] at z
        cases z
        have hi' : i < vs.length := by rw [hl]; simpa using hi
        refine ⟨vs[i], ?_, (rs.2 i vs[i] d (by simp [hi']) e).mono noav⟩
        unfold L2.start
        rw [List.getElem?_append_left (by simpa using hi'), List.getElem?_map]
        simp [hi']
    · rw [List.getElem?_replicate] at z
      split at z <;> cases z
end
end Wv
/-! Dicts, loops, comprehensions over trees. -/
namespace Wv
open PySem L2 Evl
/-- a key of a dict -/
def kD : Dt → (Key → Prop) → Prop
  | .int i, k => k (.inl i)
  | .str z, k => k (.inr z)
  | _, _ => False
theorem kD_rv {so : Option Addr} {O : Addr → Prop} {H : Hp} {y : V} {d : Dt} {k : Key → Prop} (r : Rv so O H y d) (h : kD d k) : ∃ j, y = kV j ∧ k j := by
  cases r with
  | int i => exact ⟨.inl i, rfl, h⟩
  | str hz => exact ⟨.inr _, rfl, h⟩
  | _ => exact h.elim
section
variable {g : Gx} {c : Cc} {H H1 H2 H' : Hp} {σ : L2.St} {env e1 : List Sl} {ta tb te td ty tv tx : TE} {tt : TT} {t u tu tw : TS} {P : Dt → List Sl → Prop} {x : V} {d : Dt} {E : De}
theorem dct_rv {so : Option Addr} {O : Addr → Prop} {kvs : List (Key × Dt)} (r : Rv so O H x (.dct kvs)) : ∃ a xs, x = .ref a ∧ ¬ O a ∧ Rd H a (.dK xs) ∧ Tb so O H xs kvs ∧ kvs.length ≤ Zz := by
  cases r with
  | dct ho h hk hz he => exact ⟨_, _, rfl, ho, h, ⟨hk, he⟩, hz⟩
theorem et_dget (h : Et g env td fun d e => Et g e ty fun k e2 => kD k fun j => ∃ kvs t, d = .dct kvs ∧ dlk kvs j = some t ∧ P t e2) : Et g env (tDGet td ty) P := fun c L σ H S Q q =>
  h c L σ H S _ fun x d env1 H1 p1 S1 l1 k1 r1 => p1 c L σ H1 S1 _ fun y k env2 H2 p2 S2 l2 k2 r2 => by
    obtain ⟨j, rfl, kvs, t, rfl, ht, p⟩ := kD_rv r2 p2
    obtain ⟨a, xs, rfl, ho, h0, tb, hz⟩ := dct_rv ((S1.kp r1 k2).mono (Av.le l2))
    have tv := tb.val (k := j)
    rw [ht] at tv
    obtain ⟨v, z1, z2⟩ := tv
    exact ⟨a, v, rfl, .inl ⟨xs, j, h0, rfl, z1.symm⟩, q v t env2 H2 p S2 (l1.trans l2) (k1.trans (k2.le l1)) z2⟩
/-- of an own dict -/
theorem own_dct {i : Nat} {kvs : List (Key × Dt)} (S : Sv g.K c H σ env) (h : env[i]? = some (Sl.own (.dct kvs))) : ∃ a xs, σ[i]? = some (some (V.ref a)) ∧ H a = some (.dK xs) ∧ Tb c.so (Av c σ env) H xs kvs ∧ kvs.length ≤ Zz ∧ c.B a = none := by
  obtain ⟨a, h1, h2, h3, xs, h4, h5, h6, h7⟩ := S.own i _ h
  exact ⟨a, xs, h1, h4, ⟨h5, h7⟩, h6, h2⟩
theorem own_at {i : Nat} {a : Addr} (S : Sv g.K c H σ env) (h : env[i]? = some (Sl.own d)) (hs : σ[i]? = some (some (V.ref a))) : Ol c.so (Av c σ env) H a d ∧ c.B a = none ∧ ¬ c.O a := by
  obtain ⟨b, h1, h2, h3, h4⟩ := S.own i _ h
  rw [hs] at h1
  cases h1
  exact ⟨h4, h2, h3⟩
theorem et_dgetO {i : Nat} {d0 : Dt} (h0 : env[i]? = some (Sl.own d0)) (h : Et g env ty fun k e2 => kD k fun j => ∃ kvs t, e2[i]? = some (Sl.own (.dct kvs)) ∧ dlk kvs j = some t ∧ P t e2) : Et g env (tDGet (tVar i) ty) P := fun c L σ H S Q q => by
  obtain ⟨a, h1, _⟩ := S.own i d0 h0
  refine ⟨.ref a, h1, h c L σ H S _ fun y k e2 H2 p S2 l2 k2 r2 => ?_⟩
  obtain ⟨j, rfl, kvs, t, hi, ht, p⟩ := kD_rv r2 p
  obtain ⟨⟨xs, z1, z2, z3, z4⟩, _⟩ := own_at S2 hi h1
  have tv := (show Tb c.so (Av c σ e2) H2 xs kvs from ⟨z2, z4⟩).val (k := j)
  rw [ht] at tv
  obtain ⟨v, w1, w2⟩ := tv
  exact ⟨a, v, rfl, .inl ⟨xs, j, .inl z1, rfl, w1.symm⟩, q v t e2 H2 p S2 l2 k2 w2⟩
theorem isSome_val {so : Option Addr} {O : Addr → Prop} {xs : List (Key × V)} {kvs : List (Key × Dt)} {k : Key} (tb : Tb so O H xs kvs) : (valV xs k).isSome = (dlk kvs k).isSome := by
  have := tb.val (k := k)
  cases e : dlk kvs k with
  | none => rw [e] at this; rw [this]; rfl
  | some t => rw [e] at this; obtain ⟨v, h, _⟩ := this; rw [h]; rfl
theorem et_din (h : Et g env ty fun k e => Et g e td fun d e2 => kD k fun j => ∃ kvs, d = .dct kvs ∧ P (.bl (dlk kvs j).isSome) e2) : Et g env (tDIn ty td) P := fun c L σ H S Q q =>
  h c L σ H S _ fun y k env1 H1 p1 S1 l1 k1 r1 => p1 c L σ H1 S1 _ fun x d env2 H2 p2 S2 l2 k2 r2 => by
    obtain ⟨j, rfl, kvs, rfl, p⟩ := kD_rv ((S1.kp r1 k2).mono (Av.le l2)) p2
    obtain ⟨a, xs, rfl, ho, h0, tb, hz⟩ := dct_rv r2
    exact ⟨a, valV xs j, rfl, .inl ⟨xs, j, h0, rfl, rfl⟩, by rw [isSome_val tb]; exact q _ _ env2 H2 p S2 (l1.trans l2) (k1.trans (k2.le l1)) (.bl _)⟩
theorem et_dnin (h : Et g env ty fun k e => Et g e td fun d e2 => kD k fun j => ∃ kvs, d = .dct kvs ∧ P (.bl (!(dlk kvs j).isSome)) e2) : Et g env (tDNotIn ty td) P := fun c L σ H S Q q =>
  h c L σ H S _ fun y k env1 H1 p1 S1 l1 k1 r1 => p1 c L σ H1 S1 _ fun x d env2 H2 p2 S2 l2 k2 r2 => by
    obtain ⟨j, rfl, kvs, rfl, p⟩ := kD_rv ((S1.kp r1 k2).mono (Av.le l2)) p2
    obtain ⟨a, xs, rfl, ho, h0, tb, hz⟩ := dct_rv r2
    exact ⟨a, valV xs j, rfl, .inl ⟨xs, j, h0, rfl, rfl⟩, by rw [isSome_val tb]; exact q _ _ env2 H2 p S2 (l1.trans l2) (k1.trans (k2.le l1)) (.bl _)⟩
theorem et_dinO {i : Nat} (h : Et g env ty fun k e => kD k fun j => ∃ kvs, e[i]? = some (Sl.own (.dct kvs)) ∧ P (.bl (dlk kvs j).isSome) e) : Et g env (tDIn ty (tVar i)) P := fun c L σ H S Q q =>
  h c L σ H S _ fun y k e H1 p1 S1 l1 k1 r1 => by
    obtain ⟨j, rfl, kvs, hi, p⟩ := kD_rv r1 p1
    obtain ⟨a, xs, z1, z2, tb, _⟩ := own_dct S1 hi
    exact ⟨.ref a, z1, a, valV xs j, rfl, .inl ⟨xs, j, .inl z2, rfl, rfl⟩, by rw [isSome_val tb]; exact q _ _ e H1 p S1 l1 k1 (.bl _)⟩
theorem et_dninO {i : Nat} (h : Et g env ty fun k e => kD k fun j => ∃ kvs, e[i]? = some (Sl.own (.dct kvs)) ∧ P (.bl (!(dlk kvs j).isSome)) e) : Et g env (tDNotIn ty (tVar i)) P := fun c L σ H S Q q =>
  h c L σ H S _ fun y k e H1 p1 S1 l1 k1 r1 => by
    obtain ⟨j, rfl, kvs, hi, p⟩ := kD_rv r1 p1
    obtain ⟨a, xs, z1, z2, tb, _⟩ := own_dct S1 hi
    exact ⟨.ref a, z1, a, valV xs j, rfl, .inl ⟨xs, j, .inl z2, rfl, rfl⟩, by rw [isSome_val tb]; exact q _ _ e H1 p S1 l1 k1 (.bl _)⟩
theorem et_dget2 (h : Et g env td fun d e => ∃ kvs, d = .dct kvs ∧ Et g e ty fun k e2 => Et g e2 tx fun z e3 => kD k fun j => P ((dlk kvs j).getD z) e3) : Et g env (tDGet2 td ty tx) P := fun c L σ H S Q q =>
  h c L σ H S _ fun x d env1 H1 ⟨kvs, e0, p1⟩ S1 l1 k1 r1 => by
    subst e0
    obtain ⟨a, xs, rfl, ho, h0, tb, hz⟩ := dct_rv r1
    refine ⟨a, rfl, .inl ⟨xs, h0⟩, p1 c L σ H1 S1 _ fun y k env2 H2 p2 S2 l2 k2 r2 => p2 c L σ H2 S2 _ fun z d3 env3 H3 p3 S3 l3 k3 r3 => ?_⟩
    obtain ⟨j, rfl, p⟩ := kD_rv ((S2.kp r2 k3).mono (Av.le l3)) p3
    obtain ⟨a', xs', e', ho, h0, tb, hz⟩ := dct_rv ((S2.kp ((S1.kp r1 k2).mono (Av.le l2)) k3).mono (Av.le l3))
    cases e'
    refine ⟨valV xs' j, .inl ⟨xs', j, h0, rfl, rfl⟩, ?_⟩
    have tv := tb.val (k := j)
    cases e : dlk kvs j with
    | none =>
      rw [e] at tv p
      rw [tv]
      exact q _ _ env3 H3 p S3 ((l1.trans l2).trans l3) ((k1.trans (k2.le l1)).trans (k3.le (l1.trans l2))) r3
    | some t =>
      rw [e] at tv p
      obtain ⟨v, w1, w2⟩ := tv
      rw [w1]
      exact q _ _ env3 H3 p S3 ((l1.trans l2).trans l3) ((k1.trans (k2.le l1)).trans (k3.le (l1.trans l2))) w2
theorem et_dget2O {i : Nat} {kvs0 : List (Key × Dt)} (h0 : env[i]? = some (Sl.own (.dct kvs0))) (h : Et g env ty fun k e2 => Et g e2 tx fun z e3 => kD k fun j => ∃ kvs, e3[i]? = some (Sl.own (.dct kvs)) ∧ P ((dlk kvs j).getD z) e3) : Et g env (tDGet2 (tVar i) ty tx) P := fun c L σ H S Q q => by
  obtain ⟨a, xs, h1, h2, _⟩ := own_dct S h0
  refine ⟨.ref a, h1, a, rfl, .inl ⟨xs, .inl h2⟩, h c L σ H S _ fun y k env2 H2 p2 S2 l2 k2 r2 => p2 c L σ H2 S2 _ fun z d3 env3 H3 p3 S3 l3 k3 r3 => ?_⟩
  obtain ⟨j, rfl, kvs, hi, p⟩ := kD_rv ((S2.kp r2 k3).mono (Av.le l3)) p3
  obtain ⟨⟨xs', z1, z2, z3, z4⟩, _⟩ := own_at S3 hi h1
  refine ⟨valV xs' j, .inl ⟨xs', j, .inl z1, rfl, rfl⟩, ?_⟩
  have tv := (show Tb c.so (Av c σ env3) H3 xs' kvs from ⟨z2, z4⟩).val (k := j)
  cases e : dlk kvs j with
  | none =>
    rw [e] at tv p
    rw [tv]
    exact q _ _ env3 H3 p S3 (l2.trans l3) (k2.trans (k3.le l2)) r3
  | some t =>
    rw [e] at tv p
    obtain ⟨v, w1, w2⟩ := tv
    rw [w1]
    exact q _ _ env3 H3 p S3 (l2.trans l3) (k2.trans (k3.le l2)) w2
/-- d[k] = v, an own dict -/
theorem wd_dput {i : Nat} (h : Et g env tv fun v e => ∃ kvs0, e[i]? = some (Sl.own kvs0) ∧ Et g e ty fun k e2 => kD k fun j => ∃ kvs, e2[i]? = some (Sl.own (.dct kvs)) ∧ kvs.length < Zz ∧ E.nx (e2.set i (.own (.dct (dpt kvs j v))))) : Wd g env (sDPut (tVar i) ty tv) E := fun c L σ H S D n b k r =>
  h c L σ H S _ fun v d e H1 ⟨kvs0, h0, p1⟩ S1 l1 k1 r1 => by
    obtain ⟨a, h1, _⟩ := S1.own i kvs0 h0
    refine ⟨.ref a, h1, p1 c L σ H1 S1 _ fun y kd e2 H2 p S2 l2 k2 r2 => ?_⟩
    obtain ⟨j, rfl, kvs, hi, hl, p⟩ := kD_rv r2 p
    obtain ⟨⟨xs, z1, z2, z3, z4⟩, _⟩ := own_at S2 hi h1
    have tb : Tb c.so (Av c σ e2) H2 xs kvs := ⟨z2, z4⟩
    have hp : Av c σ e2 a := .inr ⟨i, _, hi, h1⟩
    have tb' := (tb.put (k := j) ((S1.kp r1 k2).mono (Av.le l2))).keep (A := c.O) (Ko.mut (o := .dK (putK xs j v)) hp)
    refine ⟨a, _, rfl, .inl ⟨xs, j, z1, rfl, Nat.lt_of_lt_of_le (by rw [tb.len]; exact hl) (by decide), rfl⟩, n σ _ _ (S2.put (e := .dct (dpt kvs j d)) hi h1 ⟨_, upd_same, tb'.1, Nat.le_trans (dpt_len _ _ _) hl, tb'.2⟩) (((fw_e l1 k1).trans (fw_e l2 k2)).trans (fw_put hi h1)) p⟩
/-! ### while -/
theorem wd_while (W : Nat → List Sl → Prop) (m : Nat) (h0 : W m env) (hs : ∀ m e, W m e → Eb g e tt fun b e1 => if b = true then Wd g e1 tu { nx := fun e2 => ∃ m', m' < m ∧ W m' e2, ct := fun e2 => ∃ m', m' < m ∧ W m' e2, bk := E.nx, rt := E.rt } else E.nx e1) : Wd g env (tWhile tt tu) E := fun c L σ H S D n b k r => by
  refine ⟨fun m σ' H' => ∃ e, Sv g.K c H' σ' e ∧ Fw c σ env H σ' e H' ∧ W m e, ⟨m, env, S, Fw.refl, h0⟩, ?_⟩
  rintro m σ' H' ⟨e, S', f', w⟩
  refine hs m e w c L σ' H' S' _ fun v e1 H1 p S1 l1 k1 => ?_
  have f1 := f'.trans (fw_e l1 k1)
  cases v with
  | true =>
    refine ⟨fun σ2 H2 => ∃ e2, Sv g.K c H2 σ2 e2 ∧ Fw c σ env H σ2 e2 H2 ∧ ∃ m', m' < m ∧ W m' e2, fun σ2 H2 ⟨e2, S2, f2, m', hm, w2⟩ => ⟨m', hm, e2, S2, f2, w2⟩, ?_⟩
    exact p c L σ' H1 S1 _ (fun σ3 H3 e3 S3 f3 z => ⟨e3, S3, f1.trans f3, z⟩) (fun σ3 H3 e3 S3 f3 z => n σ3 H3 e3 S3 (f1.trans f3) z) (fun σ3 H3 e3 S3 f3 z => ⟨e3, S3, f1.trans f3, z⟩) fun x d H' p hb kf rv => r x d H' p hb (f1.trans (σ2 := σ') (e2 := e1) ⟨kf, fun a z => .inl z⟩).1 rv
  | false => exact n σ' H1 e1 S1 f1 p
end
end Wv
/-! What is walked; comprehensions. -/
namespace Wv
open PySem L2 Evl
section
variable {g : Gx} {c : Cc} {H H1 H2 H' : Hp} {σ : L2.St} {env e1 : List Sl} {ta tb te td ty tv tx : TE} {tt : TT} {t u tu tw : TS} {P : Dt → List Sl → Prop} {PL : List Dt → List Sl → Prop} {x : V} {d : Dt} {E : De} {so : Option Addr} {A O' : Addr → Prop}
theorem Rv.later (r : Rv so A H1 x d) {A2 : Addr → Prop} (k : Ko A A2 H1 H') (h : ∀ a, O' a → A a ∨ H1 a = none) : Rv so O' H' x d :=
  ((r.avoid (O' := fun a => A a ∨ O' a) fun a z => z.elim .inl (h a)).keep (k.mono (fun a z => .inl z) fun _ z => z)).mono fun a z => .inr z
theorem wk_list {a : Addr} {ds : List Dt} (r : Rv so A H1 (.ref a) (.lst ds)) : Wk so A (Itl g.K a) ds H1 := by
  cases r with
  | @lst _ xs _ ho h hl hz he =>
    have sq : ∀ H', Ko A A H1 H' → SqL g.K H' a xs := fun H' k => .inl (.inl (k.keep1 ho h fun _ z => nomatch z))
    refine ⟨hz, fun i H' hi k => ⟨xs, xs[i]'(by omega), sq H' k, by simp [hl, hi]⟩, fun H' k => ⟨xs, sq H' k, by omega⟩, fun O' i H' x H'' hi k h1 h2 ⟨e, y⟩ => ?_⟩
    subst e
    have hx := y xs (sq H'' k)
    refine ⟨Ex.refl _, ds[i], by simp [hi], ?_⟩
    exact (he i x ds[i] hx (by simp [hi])).later k h1
theorem wk_tup {a : Addr} {ds : List Dt} (r : Rv so A H1 (.ref a) (.tup ds)) : Wk so A (Itt g.K a) ds H1 := by
  cases r with
  | @tup _ xs _ ho h hl hz he =>
    have sq : ∀ H', Ko A A H1 H' → SqT g.K H' a xs := fun H' k => .inl (.inl (k.keep1 ho h fun _ z => nomatch z))
    refine ⟨hz, fun i H' hi k => ⟨xs, xs[i]'(by omega), sq H' k, by simp [hl, hi]⟩, fun H' k => ⟨xs, sq H' k, by omega⟩, fun O' i H' x H'' hi k h1 h2 ⟨e, y⟩ => ?_⟩
    subst e
    have hx := y xs (sq H'' k)
    refine ⟨Ex.refl _, ds[i], by simp [hi], ?_⟩
    exact (he i x ds[i] hx (by simp [hi])).later k h1
theorem lst_rv {ds : List Dt} (r : Rv so A H x (.lst ds)) : ∃ a xs, x = .ref a ∧ ¬ A a ∧ H a = some (.lst xs) ∧ Rvs so A H xs ds ∧ ds.length ≤ Zz := by
  cases r with
  | lst ho h hl hz he => exact ⟨_, _, rfl, ho, h, ⟨hl, he⟩, hz⟩
theorem tup_rv {ds : List Dt} (r : Rv so A H x (.tup ds)) : ∃ a xs, x = .ref a ∧ ¬ A a ∧ H a = some (.tup xs) ∧ Rvs so A H xs ds ∧ ds.length ≤ Zz := by
  cases r with
  | tup ho h hl hz he => exact ⟨_, _, rfl, ho, h, ⟨hl, he⟩, hz⟩
theorem ei_list (h : Et g env te fun d e => ∃ ds, d = .lst ds ∧ PL ds e) : Ei g env (iList g.K te) PL := fun c L σ H S R q =>
  h c L σ H S _ fun x d e H1 ⟨ds, e0, p⟩ S1 l k r => by
    subst e0
    obtain ⟨a, xs, rfl, ho, h0, rs, hz⟩ := lst_rv r
    exact ⟨a, rfl, ⟨xs, .inl (.inl h0)⟩, q _ ds e H1 p S1 l k (wk_list r)⟩
theorem ei_tup (h : Et g env te fun d e => ∃ ds, d = .tup ds ∧ PL ds e) : Ei g env (iTup g.K te) PL := fun c L σ H S R q =>
  h c L σ H S _ fun x d e H1 ⟨ds, e0, p⟩ S1 l k r => by
    subst e0
    obtain ⟨a, xs, rfl, ho, h0, rs, hz⟩ := tup_rv r
    exact ⟨a, rfl, ⟨xs, .inl (.inl h0)⟩, q _ ds e H1 p S1 l k (wk_tup r)⟩
def rngD (lo : Int) (n : Nat) : List Dt := (List.range n).map fun i => .int (lo + (i : Nat))
theorem rngD_len (lo : Int) (n : Nat) : (rngD lo n).length = n := by simp [rngD]
theorem rngD_get {lo : Int} {n i : Nat} {d : Dt} (h : (rngD lo n)[i]? = some d) : d = .int (lo + i) ∧ i < n := by
  have hi : i < n := by have := (List.getElem?_eq_some_iff.mp h).1; rwa [rngD_len] at this
  unfold rngD at h
  rw [List.getElem?_map, List.getElem?_range hi] at h
  exact ⟨(Option.some.inj h).symm, hi⟩
theorem wk_rng {lo : Int} {n : Nat} (hn : n ≤ Zz) : Wk so A (Itr lo n) (rngD lo n) H1 := by
  refine ⟨by rw [rngD_len]; exact hn, fun i H' hi k => by rw [rngD_len] at hi; exact hi, fun H' k => by rw [rngD_len]; exact Nat.le_refl n, fun O' i H' x H'' hi k h1 h2 ⟨e, y⟩ => ?_⟩
  subst e y
  rw [rngD_len] at hi
  exact ⟨Ex.refl _, .int (lo + i), by unfold rngD; rw [List.getElem?_map, List.getElem?_range hi]; rfl, .int _⟩
theorem int_rv {i : Int} (r : Rv so A H x (.int i)) : x = .int i := by
  cases r with
  | int i => rfl
theorem str_rv {z : Str} (r : Rv so A H x (.str z)) : x = .str z ∧ z.length ≤ Zz := by
  cases r with
  | str h => exact ⟨rfl, h⟩
theorem one_rv {xs : List V} {d : Dt} (r : Rvs so A H xs [d]) : ∃ x, xs = [x] ∧ Rv so A H x d := by
  obtain ⟨h1, h2⟩ := r
  match xs, h1 with
  | [x], _ => exact ⟨x, rfl, h2 0 x d rfl rfl⟩
theorem two_rv {xs : List V} {d e : Dt} (r : Rvs so A H xs [d, e]) : ∃ x y, xs = [x, y] ∧ Rv so A H x d ∧ Rv so A H y e := by
  obtain ⟨h1, h2⟩ := r
  match xs, h1 with
  | [x, y], _ => exact ⟨x, y, rfl, h2 0 x d rfl rfl, h2 1 y e rfl rfl⟩
theorem ei_rng1 {ta : TA} (h : Ea g env ta fun ds e => ∃ n : Int, ds = [.int n] ∧ n ≤ Zz ∧ -100000 ≤ n ∧ PL (rngD 0 n.toNat) e) : Ei g env (iRng1 ta) PL := fun c L σ H S R q =>
  h c L σ H S _ fun xs ds e H1 ⟨n, e0, hn, hn2, p⟩ S1 l k r => by
    subst e0
    obtain ⟨x, rfl, r1⟩ := one_rv r
    cases int_rv r1
    exact ⟨n, rfl, by omega, by simp only [Zz] at hn; omega, q _ _ e H1 p S1 l k (wk_rng (by simp only [Zz] at hn ⊢; omega))⟩
theorem ei_rng2 {ta : TA} (h : Ea g env ta fun ds e => ∃ m n : Int, ds = [.int m, .int n] ∧ (-100000 ≤ m ∧ m ≤ 100000 ∧ -100000 ≤ n ∧ n ≤ 100000 ∧ n - m ≤ Zz) ∧ PL (rngD m (n - m).toNat) e) : Ei g env (iRng2 ta) PL := fun c L σ H S R q =>
  h c L σ H S _ fun xs ds e H1 ⟨m, n, e0, hn, p⟩ S1 l k r => by
    subst e0
    obtain ⟨x, y, rfl, r1, r2⟩ := two_rv r
    cases int_rv r1
    cases int_rv r2
    simp only [Zz] at hn
    exact ⟨m, n, rfl, ⟨by omega, by omega, by omega, by omega⟩, q _ _ e H1 p S1 l k (wk_rng (by simp only [Zz]; omega))⟩
def strD (z : Str) : List Dt := z.cps.toList.map fun k => .str ⟨#[k]⟩
theorem ei_str (h : Et g env te fun d e => ∃ z, d = .str z ∧ PL (strD z) e) : Ei g env (iStr te) PL := fun c L σ H S R q =>
  h c L σ H S _ fun x d e H1 ⟨z, e0, p⟩ S1 l k r => by
    subst e0
    obtain ⟨rfl, hz⟩ := str_rv r
    have hl : (strD z).length = z.cps.size := by simp [strD]
    refine ⟨z, rfl, q _ _ e H1 p S1 l k ⟨by rw [hl]; exact hz, fun i H' hi k => by rw [hl] at hi; exact hi, fun H' k => by rw [hl]; exact Nat.le_refl _, fun O' i H' x H'' hi k h1 h2 ⟨e, k', hk, y⟩ => ?_⟩⟩
    subst e y
    refine ⟨Ex.refl _, .str ⟨#[k']⟩, ?_, .str (by show 1 ≤ Zz; decide)⟩
    unfold strD
    rw [List.getElem?_map, Array.getElem?_toList, hk]
    rfl
/-! ### comprehensions -/
theorem wipe1 {j : Nat} : wipe σ [j] = σ.set j none := rfl
theorem wipe_set1 {j : Nat} {y : V} : (wipe σ [j]).set j (some y) = σ.set j (some y) := by rw [wipe1, List.set_set]
theorem wipe_back1 {j : Nat} {y : V} : wipe ((wipe σ [j]).set j (some y)) [j] = wipe σ [j] := by rw [wipe_set1, wipe1, wipe1, List.set_set]
/-- back from the block's slots -/
theorem Sv.unset {j : Nat} {H3 : Hp} {y : V} {p : Addr} (S : Sv g.K (c.add p) H σ env) (hj : ∀ d0, env[j]? ≠ some (Sl.own d0)) (S3 : Sv g.K (c.add p) H3 (σ.set j (some y)) (env.set j (.v d))) (k : Ko (Mv (c.add p) σ env) (An (c.add p) σ env) H H3) : Sv g.K (c.add p) H3 σ env := by
  have kk : ∀ i e, env[i]? = some (Sl.own e) → i ≠ j := fun i e h z => hj e (by rw [← z]; exact h)
  have av : ∀ a, Av (c.add p) σ env a → Av (c.add p) (σ.set j (some y)) (env.set j (.v d)) a := fun a z => by
    rcases z with z | ⟨i, e, z1, z2⟩
    · exact .inl z
    · have n := kk i e z1
      exact .inr ⟨i, e, by rw [List.getElem?_set, if_neg (Ne.symm n)]; exact z1, by rw [List.getElem?_set, if_neg (Ne.symm n)]; exact z2⟩
  refine ⟨S3.toHb, S.len, S.uniq, fun i e z => ?_, fun i e z => ?_⟩
  · obtain ⟨w, w1, w2⟩ := S.tree i e z
    exact ⟨w, w1, S.kp w2 k⟩
  · have n := kk i e z
    obtain ⟨w, w1, w2, w3, w4⟩ := S3.own i e (by rw [List.getElem?_set, if_neg (Ne.symm n)]; exact z)
    rw [List.getElem?_set, if_neg (Ne.symm n)] at w1
    exact ⟨w, w1, w2, w3, w4.mono av⟩
/-- a write to what is avoided -/
theorem Sv.wrO {p : Addr} {o : HO} (S : Sv g.K c H σ env) (hp : c.O p) (ne : ∀ s, c.so = some s → p ≠ s ∧ p ≠ c.cc.cc) (hB : c.B p = none) (hpl : Pl H p) : Sv g.K c (upd H p o) σ env := by
  refine ⟨⟨⟨fun a u n z => ?_, fun a z => upd_some (S.base.2 a z)⟩, S.lkb, S.sO, fun a z => upd_some (S.dom a z), S.stt.put ne hpl⟩, S.len, S.uniq, fun i d z => ?_, fun i d z => ?_⟩
  · have ne : a ≠ p := fun q => by rw [q, hB] at z; cases z
    rw [upd_ne ne]
    exact S.base.1 a u n z
  · obtain ⟨y, z1, z2⟩ := S.tree i d z
    exact ⟨y, z1, z2.keep (A := c.O) (Ko.mut (.inl hp))⟩
  · obtain ⟨y, z1, z2, z3, z4⟩ := S.own i d z
    exact ⟨y, z1, z2, z3, z4.keep (A := c.O) (Ko.mut (.inl hp)) (upd_ne fun q => z3 (by rw [q]; exact hp))⟩
/-- the new list or dict of a comprehension at its turns -/
structure Cq (g : Gx) (c : Cc) (σ : L2.St) (e1 : List Sl) (H1 : Hp) (D : Addr) (acc : Dt) (H' : Hp) : Prop where
  sv : Sv g.K (c.add D) H' σ e1
  kf : Ko (Mv c σ e1) (An c σ e1) H1 H'
  ol : Ol c.so (Av (c.add D) σ e1) H' D acc
theorem Cq.start {D : Addr} {o : HO} {acc : Dt} (S : Sv g.K c H1 σ e1) (hD : H1 D = none) (ho : Ol c.so (Av (c.add D) σ e1) (upd H1 D o) D acc) : Cq g c σ e1 H1 D acc (upd H1 D o) := ⟨S.add hD, Ko.new hD, ho⟩
/-- into the block: the item at the target's slot -/
theorem Cq.into {D : Addr} {acc : Dt} {j : Nat} {H'' : Hp} (q : Cq g c σ e1 H1 D acc H') (e : Ex H' H'') (rd : Rv c.so (Av (c.add D) σ e1) H'' x d) : Cq g c σ e1 H1 D acc H'' ∧ Sv g.K (c.add D) H'' (σ.set j (some x)) (e1.set j (.v d)) := by
  have S'' := q.sv.ex e
  refine ⟨⟨S'', q.kf.trans (Ko.ex e), q.ol.keep (A := c.O) (Ko.ex e) ?_⟩, S''.set_v rd⟩
  cases z : H' D with
  | none => exact absurd z q.ol.some
  | some u => exact e D u z
/-- a step within the block -/
theorem Cq.step {D : Addr} {acc : Dt} {j : Nat} {H3 : Hp} {y : V} (q : Cq g c σ e1 H1 D acc H') (S1 : Sv g.K c H1 σ e1) (hD : H1 D = none) (hj : ∀ d0, e1[j]? ≠ some (Sl.own d0)) (Sb : Sv g.K (c.add D) H' (σ.set j (some y)) (e1.set j (.v d)))
    (S3 : Sv g.K (c.add D) H3 (σ.set j (some y)) (e1.set j (.v d))) (k3 : Ko (Mv (c.add D) (σ.set j (some y)) (e1.set j (.v d))) (An (c.add D) (σ.set j (some y)) (e1.set j (.v d))) H' H3) : Cq g c σ e1 H1 D acc H3 := by
  have hDs : ∀ s, Chg c.so c.cc s → D ≠ s := fun s z q => S1.dom s (S1.sO s z).1 (by rw [← q]; exact hD)
  have nD : ¬ Mv (c.add D) (σ.set j (some y)) (e1.set j (.v d)) D := fun z => by
    rcases z with z | z
    · exact hDs D z rfl
    · obtain ⟨i', d', z1, z2⟩ := z
      obtain ⟨b, w1, _, w3, _⟩ := Sb.own i' d' z1
      rw [z2] at w1
      cases w1
      exact w3 (.inr rfl)
  have own : ∀ a, Ow σ e1 a → Ow (σ.set j (some y)) (e1.set j (.v d)) a := fun a ⟨i, e, z1, z2⟩ => by
    have n : i ≠ j := fun z => hj e (by rw [← z]; exact z1)
    exact ⟨i, e, by rw [List.getElem?_set, if_neg (Ne.symm n)]; exact z1, by rw [List.getElem?_set, if_neg (Ne.symm n)]; exact z2⟩
  have k3' : Ko (Mv (c.add D) σ e1) (An (c.add D) σ e1) H' H3 := k3.mono (fun a z => mv_set_v a z) fun a z => z.imp id (fun z => z.imp id (own a))
  have D3 : H3 D = H' D := k3.same nD (.inr (.inl (.inr rfl))) q.ol.some
  exact ⟨q.sv.unset hj S3 k3', q.kf.trans (k3'.mono (fun a z => z) fun a z => z.imp id fun z => Av.add.mpr (.inl z)), q.ol.keep (k3'.mono (Mv.av q.sv.sO) fun _ z => z) D3⟩
theorem Cq.out {D : Addr} {j : Nat} {y : V} {t : Dt} {x' : V} (hj : ∀ d0, e1[j]? ≠ some (Sl.own d0)) (r : Rv so (Av (c.add D) (σ.set j (some y)) (e1.set j (.v d))) H x' t) : Rv so (Av (c.add D) σ e1) H x' t := r.mono fun a z => by
  rcases z with z | ⟨i', d', z1, z2⟩
  · exact .inl z
  · have n : i' ≠ j := fun q => hj d' (by rw [← q]; exact z1)
    exact .inr ⟨i', d', by rw [List.getElem?_set, if_neg (Ne.symm n)]; exact z1, by rw [List.getElem?_set, if_neg (Ne.symm n)]; exact z2⟩
/-- the new list or dict grows -/
theorem Cq.write {D : Addr} {acc acc' : Dt} {o : HO} (q : Cq g c σ e1 H1 D acc H') (S1 : Sv g.K c H1 σ e1) (hD : H1 D = none) (ho : Ol c.so (Av (c.add D) σ e1) (upd H' D o) D acc') : Cq g c σ e1 H1 D acc' (upd H' D o) := by
  refine ⟨q.sv.wrO (.inr rfl) (fun s z => ⟨fun q => S1.dom s (S1.sO s (.inl z)).1 (by rw [← q]; exact hD), fun q => S1.dom c.cc.cc ((S1.sO s (.inl z)).2 s z) (by rw [← show D = c.cc.cc from q]; exact hD)⟩) (base_none S1 hD) q.ol.pl, ⟨fun a u n z => ?_, fun a z => upd_some (q.kf.2 a z)⟩, ho⟩
  have ne : a ≠ D := fun q => by rw [q, hD] at z; cases z
  rw [upd_ne ne]
  exact q.kf.1 a u n z
theorem Cq.wr_list {D : Addr} {acc : List Dt} {xs : List V} {t : Dt} (q : Cq g c σ e1 H1 D (.lst acc) H') (S1 : Sv g.K c H1 σ e1) (hD : H1 D = none) (hx : H' D = some (.lst xs)) (hz : acc.length < Zz) (r : Rv c.so (Av (c.add D) σ e1) H' x t) :
    Cq g c σ e1 H1 D (.lst (acc ++ [t])) (upd H' D (.lst (xs ++ [x]))) := by
  obtain ⟨xs', z1, z2, z3, z4⟩ := q.ol
  rw [hx] at z1
  cases z1
  have kD : Ko (Av (c.add D) σ e1) c.O H' (upd H' D (.lst (xs ++ [x]))) := Ko.mut (.inl (.inr rfl))
  refine q.write S1 hD ⟨xs ++ [x], upd_same, by simp [z2], by rw [List.length_append]; exact hz, fun n y' t' w1 w2 => ?_⟩
  rw [List.getElem?_append] at w1 w2
  by_cases hn : n < xs.length
  · rw [if_pos hn] at w1
    rw [if_pos (by rw [← z2]; exact hn)] at w2
    exact (z4 n y' t' w1 w2).keep kD
  · rw [if_neg hn] at w1
    rw [if_neg (by rw [← z2]; exact hn)] at w2
    rw [← z2] at w2
    cases hq : n - xs.length with
    | zero => rw [hq] at w1 w2; cases w1; cases w2; exact r.keep kD
    | succ m => rw [hq] at w1; simp at w1
theorem ef_lc {wi : TI} {j : Nat} (h : Ei g env wi fun ds e1 => (∀ d0, e1[j]? ≠ some (Sl.own d0)) ∧ ∃ I : Nat → List Dt → Prop, I 0 [] ∧ (∀ i d acc, ds[i]? = some d → I i acc → Eb g (e1.set j (.v d)) tt fun b e2 => e2 = e1.set j (.v d) ∧
    if b = true then Et g (e1.set j (.v d)) te fun t e3 => e3 = e1.set j (.v d) ∧ I (i + 1) (acc ++ [t]) else I (i + 1) acc) ∧ ∀ acc, I ds.length acc → P (.lst acc) e1) : Ef g env (tLc wi (gName j) tt te [j]) P := fun c L σ H S Q q => by
  refine h c L σ H S _ fun J ds e1 H1 ⟨hj, I, i0, hs, hd⟩ S1 l1 k1 w D hD => ?_
  refine ⟨fun i m H' => m = ds.length - i ∧ i ≤ ds.length ∧ ∃ acc, acc.length ≤ i ∧ I i acc ∧ Cq g c σ e1 H1 D (.lst acc) H',
    ⟨_, rfl, Nat.zero_le _, [], Nat.le_refl _, i0, Cq.start S1 hD ⟨[], upd_same, rfl, Nat.zero_le _, fun i x d z => by simp at z⟩⟩, ?_⟩
  rintro i m H' ⟨rfl, hi, acc, hal, hI, C'⟩
  have ka := C'.kf.mono (A' := Av c σ e1) (Mv.av S1.sO) fun _ z => .inr z
  by_cases hlt : i < ds.length
  · refine .inr ⟨w.go i H' hlt ka, fun H2 => ∃ acc, acc.length ≤ i + 1 ∧ I (i + 1) acc ∧ Cq g c σ e1 H1 D (.lst acc) H2, fun H2 z => ⟨ds.length - (i + 1), by omega, rfl, hlt, z⟩, fun x H'' y => ?_⟩
    obtain ⟨e, d, ed, rd⟩ := w.yld (Av (c.add D) σ e1) i H' x H'' hlt ka (fun a z => by
      rcases Av.add.mp z with z | z
      · exact .inl z
      · exact .inr (by rw [z]; exact hD)) C'.sv.lk_av y
    obtain ⟨C2, Sb⟩ := C'.into (j := j) e rd
    show wipe ((wipe σ [j]).set j (some x)) [j] = wipe σ [j] ∧ tt ((wipe σ [j]).set j (some x)) H'' _
    refine ⟨wipe_back1, ?_⟩
    rw [wipe_set1]
    refine hs i d acc ed hI (c.add D) (L.add S1.sO) (σ.set j (some x)) H'' Sb _ fun b e2 H3 ⟨e0, pb⟩ S3 l3 k3 => ?_
    subst e0
    have C3 := C2.step S1 hD hj Sb S3 k3
    cases b with
    | false => exact ⟨acc, Nat.le_succ_of_le hal, pb, C3⟩
    | true =>
      refine pb (c.add D) (L.add S1.sO) (σ.set j (some x)) H3 S3 _ fun y t e3 H4 ⟨e0, pt⟩ S4 l4 k4 r4 => ?_
      subst e0
      have C4 := C3.step S1 hD hj S3 S4 k4
      obtain ⟨xs, z1, z2, z3, z4⟩ := C4.ol
      have hl := w.len
      exact ⟨xs, z1, Nat.lt_of_lt_of_le (show xs.length < Zz by omega) (by decide), acc ++ [t], by simp; omega, pt, C4.wr_list S1 hD z1 (by omega) (Cq.out hj r4)⟩
  · have : i = ds.length := by omega
    subst this
    exact .inl ⟨w.stop H' ka, q D (.lst acc) e1 H' (hd acc hI) C'.sv l1 (k1.trans (C'.kf.le l1)) (k1.back hD) C'.ol⟩
end
end Wv
/-! One rule for each construct, by all the kinds of values. -/
namespace L2
open PySem PySem.Spec PyProof.Rows
section
variable {X : Cx}
/-- what may be walked: a list, a tuple, a text, a dict (locked from then on) -/
def iAny (K : PySem.W.Frag) (tl : TE) : TI := fun σ H R => tl σ H fun x H1 => (∃ a, x = .ref a ∧ (∃ xs, SqL K H1 a xs) ∧ R (Itl K a) H1) ∨ (∃ a, x = .ref a ∧ (∃ xs, SqT K H1 a xs) ∧ R (Itt K a) H1) ∨ (∃ z, x = .str z ∧ R (Its z) H1) ∨
  (∃ d od kvs, x = .ref d ∧ H1 d = some (.frz od (.dK kvs)) ∧ R (Itk d od kvs) H1) ∨ ∃ d kvs, x = .ref d ∧ H1 d = some (.dK kvs) ∧ ∀ od, R (Itk d od kvs) (upd H1 d (.frz od (.dK kvs)))
theorem pi_any {tg l : Expr} {tl : TE} (hl : PE X l tl) : PI X tg l (iAny X.K tl) := by
  refine ⟨fun pins s σ H R I h => ?_⟩
  refine thn (hl.run pins s σ H _ I h) fun v s1 ⟨x, H1, I1, r1, q1⟩ => ?_
  rcases q1 with ⟨a, e, ⟨xs, hq⟩, q⟩ | ⟨a, e, ⟨xs, hq⟩, q⟩ | ⟨z, e, q⟩ | ⟨d, o, kvs, e, hd, q⟩ | ⟨d, kvs, e, hd, q⟩
  · subst e
    cases r1
    obtain ⟨its, rv, p, hz⟩ := I1.list hq
    refine wpAny_pyIter_list p.isList ?_
    refine ⟨s1.heap.objs.size, [s1.heap.objs.size], _, _, H1, rfl, I1.kept (t' := s1.toks) fun b o e => Heap.get?_push_of_some _ e, turn_list a _, ⟨_, Heap.get?_push_size _ rfl, rfl, rfl⟩, fun b hb => ?_, q⟩
    have e : b = s1.heap.objs.size := by simpa using hb
    subst e
    exact I1.fpOk (Nat.le_refl _) (I1.hok.fresh (Nat.le_refl _))
  · subst e
    cases r1
    obtain ⟨its, rv, p, hz⟩ := I1.tuple hq
    refine wpAny_pyIter_tuple (show s1.heap.IsTuple a its.toArray from p) ?_
    refine ⟨s1.heap.objs.size, [s1.heap.objs.size], _, _, H1, rfl, I1.kept (t' := s1.toks) fun b o e => Heap.get?_push_of_some _ e, turn_tuple a _, ⟨_, Heap.get?_push_size _ rfl, rfl, rfl⟩, fun b hb => ?_, q⟩
    have e : b = s1.heap.objs.size := by simpa using hb
    subst e
    exact I1.fpOk (Nat.le_refl _) (I1.hok.fresh (Nat.le_refl _))
  · subst e
    obtain ⟨t, rfl⟩ := r1
    cases ha : z.cps.all (· < 128)
    · exact wpAny_pyIter_wide ha (pi_one (tk := s1.toks) I1 _ (turn_str _ z t "str_iterator" (.inr rfl)) ⟨_, Heap.get?_push_size _ rfl, rfl, rfl⟩ q)
    · exact wpAny_pyIter_ascii ha (pi_one (tk := s1.toks) I1 _ (turn_str _ z t "str_ascii_iterator" (.inl rfl)) ⟨_, Heap.get?_push_size _ rfl, rfl, rfl⟩ q)
  · subst e
    obtain rfl : v = Value.ref d := r1
    obtain ⟨hs, hgd, hx, es, ep, vs, hdt, hsz, kv, hm⟩ := I1.frzK hd
    refine iter_keys hs hgd hx hdt (pi_one (tk := s1.toks) I1 _ (turn_keys _ hdt) ⟨_, Heap.get?_push_size _ rfl, rfl, ?_⟩ q)
    rw [hsz] <;> rfl
  · subst e
    obtain rfl : v = Value.ref d := r1
    obtain ⟨od, I2⟩ := I1.lock hd trivial
    obtain ⟨hs, hgd, hx, es, ep, vs, hdt, hsz, kv, hm⟩ := I2.frzK upd_same
    refine iter_keys hs hgd hx hdt (pi_one (tk := s1.toks) I2 _ (turn_keys _ hdt) ⟨_, Heap.get?_push_size _ rfl, rfl, ?_⟩ (q od))
    rw [hsz] <;> rfl
/-- d[k] by values -/
def rIxK : R2 := fun x y H Q => ∃ a v, x = .ref a ∧ DGet H a y (some v) ∧ Q v H
theorem ix_dct (hu : X.A.units + 1 < cLine) : IxR X rIxK := by
  intro value slice pins s σ H x y v u Q I rx ry h hs
  obtain ⟨a, r, rfl, g, q⟩ := h
  obtain rfl : v = Value.ref a := rx
  exact tail_any (dict_typeIs I g) slot_dict_getitem.lookup (d_getItem hu I g ry fun w' s3 I3 rw' => ⟨r, H, I3, rw', q⟩) hs
def rIxA (K : PySem.W.Frag) : R2 := fun x y H Q => rIx K x y H Q ∨ rIxK x y H Q
theorem uIxA (K : PySem.W.Frag) (hu : X.A.units + 64 < cLine) (hK : X.K = K := by rfl) : IxR X (rIxA K) := by
  subst hK
  exact ix_seq.or (ix_dct (by omega))
def rInK : R2 := fun y x H Q => ∃ a o, x = .ref a ∧ DGet H a y o ∧ Q (.bl o.isSome) H
def rNiK : R2 := fun y x H Q => ∃ a o, x = .ref a ∧ DGet H a y o ∧ Q (.bl (!o.isSome)) H
theorem op_inK (hu : X.A.units + 1 < cLine) : OpR X (compareOp .In) rInK := by
  intro pins s σ H y x iv u Q I ry rx h
  obtain ⟨a, ov, rfl, g, q⟩ := h
  obtain rfl : u = Value.ref a := rx
  exact d_in hu I g ry fun s3 I3 => ⟨.bl ov.isSome, H, I3, rfl, q⟩
theorem op_niK (hu : X.A.units + 1 < cLine) : OpR X (compareOp .NotIn) rNiK := by
  intro pins s σ H y x iv u Q I ry rx h
  obtain ⟨a, ov, rfl, g, q⟩ := h
  obtain rfl : u = Value.ref a := rx
  exact d_notIn hu I g ry fun s3 I3 => ⟨.bl (!ov.isSome), H, I3, rfl, q⟩
def rInS : R2 := fun x y H Q => ∃ (c : Nat) (z : Str), x = .str ⟨#[c]⟩ ∧ y = .str z ∧ Q (.bl (decide (c ∈ z.cps.toList))) H
def rNiS : R2 := fun x y H Q => ∃ (c : Nat) (z : Str), x = .str ⟨#[c]⟩ ∧ y = .str z ∧ Q (.bl (!decide (c ∈ z.cps.toList))) H
def rInA (K : PySem.W.Frag) : R2 := fun x y H Q => rIn K false x y H Q ∨ rInK x y H Q ∨ rInS x y H Q
def rNiA (K : PySem.W.Frag) : R2 := fun x y H Q => rIn K true x y H Q ∨ rNiK x y H Q ∨ rNiS x y H Q
theorem uInA (K : PySem.W.Frag) (hu : X.A.units + 64 < cLine) (hK : X.K = K := by rfl) : OpR X (compareOp .In) (rInA K) := by
  subst hK
  exact op_in_seq.or ((op_inK (by omega)).or op_in_sign)
theorem uNiA (K : PySem.W.Frag) (hu : X.A.units + 64 < cLine) (hK : X.K = K := by rfl) : OpR X (compareOp .NotIn) (rNiA K) := by
  subst hK
  exact op_notIn_seq.or ((op_niK (by omega)).or op_notIn_sign)
def rLenD : List V → Hp → VK → Prop := fun xs H Q => ∃ a kvs, xs = [V.ref a] ∧ Rd H a (.dK kvs) ∧ Q (.int kvs.length) H
theorem call_lenR : CallR X (.builtin "len") rLenD := by
  intro pins s σ H xs us Q I r h
  obtain ⟨a, kvs, rfl, ha, q⟩ := h
  obtain ⟨u, rfl, ru⟩ := vals1 r
  cases ru
  exact d_len I ha fun t s' I' => ⟨.int kvs.length, H, I', ⟨t, rfl⟩, q⟩
def rLenT : List V → Hp → VK → Prop := fun xs H Q => ∃ z : Str, xs = [.str z] ∧ z.length ≤ sizeLine ∧ Q (.int z.length) H
def rLenA (K : PySem.W.Frag) : List V → Hp → VK → Prop := fun xs H Q => Evl.rLenS K xs H Q ∨ rLenD xs H Q ∨ rLenT xs H Q
theorem u_lenA (K : PySem.W.Frag) (hK : X.K = K := by rfl) : CallR X (.builtin "len") (rLenA K) := by
  subst hK
  exact CallR.or call_len_seq (CallR.or call_lenR call_len_str)
/-- list(x): of a list, a tuple, a dict -/
def rListR : List V → Hp → VK → Prop := fun xs H Q => ∃ p kvs, xs = [.ref p] ∧ Rd H p (.dK kvs) ∧ ∀ q, H q = none → Q (.ref q) (upd H q (.lst (kvs.map fun kv => kV kv.1)))
theorem call_list_dR (hc : X.calm = true) : CallR X (.type "list") rListR := by
  intro pins s σ H xs us Q I r h
  obtain ⟨p, kvs, e, hk, q⟩ := h
  subst e
  obtain ⟨u, eu, rx⟩ := vals1 r
  subst eu
  obtain rfl : u = Value.ref p := rx
  obtain ⟨z, lo, vs, rk, hd⟩ := (show ObjOk X.prog X.w H s.heap p (.dK kvs) from hk.ok I.hok)
  obtain ⟨ep, hat⟩ := hd.dictAt
  have hl : kvs.length = vs.length := Paired.length rk
  refine PySem.W.kdl_call (PySem.W.kdl_dict (knd := mixKind X.prog X.w) (kvs := vs) (ep := ep) lo) (I.ok.hd hc) hat (by rw [← hl]; exact z) fun h' tk acc' c' hkeep hS hacc => ?_
  refine ⟨.ref s.heap.objs.size, upd H s.heap.objs.size (.lst (kvs.map fun kv => kV kv.1)), I.laid hkeep (Nat.le_refl _) (show ObjOk X.prog X.w _ _ _ (.lst (kvs.map fun kv => kV kv.1)) from ⟨?_, acc'.toList, c', ?_, ?_⟩), rfl, q _ (I.hok.fresh (Nat.le_refl _))⟩
  · rw [List.length_map]; exact z
  · have el : acc'.toList.length = acc'.size := by simp
    refine vals_of_at (by rw [List.length_map, el, hacc.1, hl]) fun j x w h1 h2 => ?_
    obtain ⟨k, y, hky, hi⟩ := hacc.2 j w (by rw [← Array.getElem?_toList]; exact h2)
    have e1 : (kvs.map (·.1))[j]? = some k := by
      rw [KV.keys rk, List.getElem?_map, hky] <;> rfl
    have e2 : (kvs.map fun kv => kV kv.1)[j]? = some (kV k) := by
      have e3 : (kvs.map fun kv => kV kv.1) = (kvs.map (·.1)).map kV := by rw [List.map_map] <;> rfl
      rw [e3, List.getElem?_map, e1] <;> rfl
    rw [e2] at h1
    cases h1
    exact keyIs_rel hi
  · rw [Array.toArray_toList]; exact hS
def rListA (K : PySem.W.Frag) : List V → Hp → VK → Prop := fun xs H Q => Evl.rListS K xs H Q ∨ rListR xs H Q
theorem u_listA (K : PySem.W.Frag) (hc : X.calm = true) (hK : X.K = K := by rfl) : CallR X (.type "list") (rListA K) := by
  subst hK
  exact CallR.or call_list_of (call_list_dR hc)
def rTupA (K : PySem.W.Frag) : List V → Hp → VK → Prop := fun xs H Q => ∃ p ys, xs = [.ref p] ∧ ((SqL K H p ys ∧ ∀ l, H l = none → Q (.ref l) (upd H l (.tup ys))) ∨ (SqT K H p ys ∧ Q (.ref p) H))
theorem u_tupA (K : PySem.W.Frag) (hK : X.K = K := by rfl) : CallR X (.type "tuple") (rTupA K) := by
  subst hK
  exact call_tuple_of
def rSortD : List V → Hp → VK → Prop := fun xs H Q => ∃ (a : Addr) (kvs : List (Key × V)) (ks : List Str), xs = [.ref a] ∧ Rd H a (.dK kvs) ∧ kvs.map (·.1) = ks.map Sum.inr ∧ ks.length < 64 ∧
  ∀ ys p, ys.Perm ks → sortedS ys = true → H p = none → Q (.ref p) (upd H p (.lst (ys.map V.str)))
def rSortA (K : PySem.W.Frag) : List V → Hp → VK → Prop := fun xs H Q => rSortedS K xs H Q ∨ rSortD xs H Q
theorem u_sortA (K : PySem.W.Frag) (hc : X.calm = true) (hK : X.K = K := by rfl) : CallR X (.builtin "sorted") (rSortA K) := by
  subst hK
  exact CallR.or cr_sortedS (call_sortedD hc)
def rSlU (K : PySem.W.Frag) : V → Option Int → Option Int → Hp → VK → Prop := fun x lo hi H Q => rSlL K x lo hi H Q ∨ rSlA K x lo hi H Q ∨ rSlS x lo hi H Q
theorem uSlA (K : PySem.W.Frag) (hK : X.K = K := by rfl) : SlR X (rSlU K) := by
  subst hK
  exact sl_list.or (sl_tupA.or sl_str)
/-- max, min of a list of ints -/
theorem u_maxA (K : PySem.W.Frag) (hc : X.calm = true) (hK : X.K = K := by rfl) : CallR X (.builtin "max") (rMax K) := by
  subst hK
  exact cr_max hc
theorem u_minA (K : PySem.W.Frag) (hc : X.calm = true) (hK : X.K = K := by rfl) : CallR X (.builtin "min") (rMin K) := by
  subst hK
  exact cr_min hc
theorem u_sumA (K : PySem.W.Frag) (hc : X.calm = true) (hK : X.K = K := by rfl) : CallR X (.builtin "sum") (rSum K) := by
  subst hK
  exact cr_sum hc
theorem u_allA (K : PySem.W.Frag) (hc : X.calm = true) (hK : X.K = K := by rfl) : CallR X (.builtin "all") (rAll K) := by
  subst hK
  exact cr_all hc
theorem u_anyA (K : PySem.W.Frag) (hc : X.calm = true) (hK : X.K = K := by rfl) : CallR X (.builtin "any") (rAny K) := by
  subst hK
  exact cr_any hc
end
end L2
/-! Operations on trees. -/
namespace Wv
open PySem L2 Evl
section
variable {g : Gx} {c : Cc} {H H1 H2 H' : Hp} {σ : L2.St} {env e1 : List Sl} {ta tb te td ty tv tx : TE} {tt : TT} {t u tu tw : TS} {P : Dt → List Sl → Prop} {PL : List Dt → List Sl → Prop} {x y : V} {d : Dt} {E : De} {so : Option Addr} {O A O' : Addr → Prop} {K : PySem.W.Frag}
/-! ### a[i] -/
def fIx : Dt → Dt → (Dt → Prop) → Prop
  | .lst ds, .int i, k => ∃ d, atI ds i = some d ∧ k d
  | .tup ds, .int i, k => ∃ d, atI ds i = some d ∧ k d
  | .str z, .int i, k => ∃ n, atI z.cps.toList i = some n ∧ k (.str ⟨#[n]⟩)
  | .dct kvs, .str z, k => ∃ d, dlk kvs (.inr z) = some d ∧ k d
  | .dct kvs, .int i, k => ∃ d, dlk kvs (.inl i) = some d ∧ k d
  | _, _, _ => False
theorem at_rvs {xs : List V} {ds : List Dt} {i : Int} (r : Rvs so O H xs ds) (h : atI ds i = some d) : ∃ x, atI xs i = some x ∧ Rv so O H x d := by
  unfold atI at h ⊢
  rw [r.1]
  cases e : ixN ds.length i with
  | none => rw [e] at h; cases h
  | some j =>
    rw [e] at h
    have hj : ds[j]? = some d := h
    have hlt : j < xs.length := by rw [r.1]; exact (List.getElem?_eq_some_iff.mp hj).1
    exact ⟨xs[j], by simp [hlt], r.2 j _ d (by simp [hlt]) hj⟩
theorem rop_ix : Rop K (rIxA K) fIx := fun so O H x y d e hO r1 r2 PD f Q q => by
  cases d with
  | lst ds =>
    cases e with
    | int i =>
      obtain ⟨t, h, p⟩ := f
      obtain ⟨a, xs, rfl, ho, h0, rs, hz⟩ := lst_rv r1
      cases int_rv r2
      obtain ⟨v, w1, w2⟩ := at_rvs rs h
      exact .inl (.inl ⟨a, xs, i, v, rfl, rfl, .inl (.inl h0), w1, q v t H p (Ex.refl H) w2⟩)
    | _ => exact f.elim
  | tup ds =>
    cases e with
    | int i =>
      obtain ⟨t, h, p⟩ := f
      obtain ⟨a, xs, rfl, ho, h0, rs, hz⟩ := tup_rv r1
      cases int_rv r2
      obtain ⟨v, w1, w2⟩ := at_rvs rs h
      exact .inl (.inr (.inl ⟨a, xs, i, v, rfl, rfl, .inl (.inl h0), w1, q v t H p (Ex.refl H) w2⟩))
    | _ => exact f.elim
  | str z =>
    cases e with
    | int i =>
      obtain ⟨n, h, p⟩ := f
      obtain ⟨rfl, hz⟩ := str_rv r1
      cases int_rv r2
      exact .inl (.inr (.inr ⟨z, i, n, rfl, rfl, Nat.le_trans hz (by decide), h, q _ _ H p (Ex.refl H) (.str (by show 1 ≤ Zz; decide))⟩))
    | _ => exact f.elim
  | dct kvs =>
    obtain ⟨a, xs, rfl, ho, h0, tb, hz⟩ := dct_rv r1
    have go : ∀ (k : Key) t, y = kV k → dlk kvs k = some t → PD t → rIxA K (.ref a) y H Q := fun k t e1 h p => by
      have tv := tb.val (k := k)
      rw [h] at tv
      obtain ⟨v, w1, w2⟩ := tv
      exact .inr ⟨a, v, rfl, .inl ⟨xs, k, h0, e1, w1.symm⟩, q v t H p (Ex.refl H) w2⟩
    cases e with
    | str z =>
      obtain ⟨t, h, p⟩ := f
      exact go (.inr z) t (str_rv r2).1 h p
    | int i =>
      obtain ⟨t, h, p⟩ := f
      exact go (.inl i) t (int_rv r2) h p
    | _ => exact f.elim
  | _ => exact f.elim
/-! ### numbers -/
def fI (C : Int → Int → Prop) (w : Int → Int → Dt) : Dt → Dt → (Dt → Prop) → Prop
  | .int i, .int j, k => C i j ∧ k (w i j)
  | _, _, _ => False
theorem rop_I {C : Int → Int → Prop} {w : Int → Int → V} {w' : Int → Int → Dt} (h : ∀ i j so O H, Rv so O H (w i j) (w' i j)) : Rop K (rI C w) (fI C w') := fun so O H x y d e hO r1 r2 PD f Q q => by
  cases d with
  | int i =>
    cases e with
    | int j =>
      cases int_rv r1
      cases int_rv r2
      exact ⟨i, j, rfl, rfl, f.1, q _ _ H f.2 (Ex.refl H) (h i j so O H)⟩
    | _ => exact f.elim
  | _ => exact f.elim
def fJ (w : Int → Int → Dt) : Dt → Dt → (Dt → Prop) → Prop
  | .int i, .int j, k => k (w i j)
  | _, _, _ => False
theorem rop_J {w : Int → Int → V} {w' : Int → Int → Dt} (h : ∀ i j so O H, Rv so O H (w i j) (w' i j)) : Rop K (rI0 w) (fJ w') := fun so O H x y d e hO r1 r2 PD f Q q => by
  cases d with
  | int i =>
    cases e with
    | int j =>
      cases int_rv r1
      cases int_rv r2
      exact ⟨i, j, rfl, rfl, q _ _ H f (Ex.refl H) (h i j so O H)⟩
    | _ => exact f.elim
  | _ => exact f.elim
theorem rop_sub : Rop K (rI0 fun i j => .int (i - j)) (fJ fun i j => .int (i - j)) := rop_J fun _ _ _ _ _ => .int _
theorem rop_lt : Rop K (rI0 fun i j => .bl (decide (i < j))) (fJ fun i j => .bl (decide (i < j))) := rop_J fun _ _ _ _ _ => .bl _
theorem rop_ge : Rop K (rI0 fun i j => .bl (decide (j ≤ i))) (fJ fun i j => .bl (decide (j ≤ i))) := rop_J fun _ _ _ _ _ => .bl _
theorem rop_gt : Rop K (rI0 fun i j => .bl (decide (j < i))) (fJ fun i j => .bl (decide (j < i))) := rop_J fun _ _ _ _ _ => .bl _
theorem rop_le : Rop K (rI0 fun i j => .bl (decide (i ≤ j))) (fJ fun i j => .bl (decide (i ≤ j))) := rop_J fun _ _ _ _ _ => .bl _
theorem rop_mod : Rop K (rI (fun _ j => j ≠ 0) fun i j => .int (i.fmod j)) (fI (fun _ j => j ≠ 0) fun i j => .int (i.fmod j)) := rop_I fun _ _ _ _ _ => .int _
theorem rop_div : Rop K (rI CDivN fun i j => .int (i.fdiv j)) (fI CDivN fun i j => .int (i.fdiv j)) := rop_I fun _ _ _ _ _ => .int _
/-- + : numbers, texts, lists, tuples -/
def fAdd : Dt → Dt → (Dt → Prop) → Prop
  | .int i, .int j, k => k (.int (i + j))
  | .str a, .str b, k => a.length + b.length ≤ Zz ∧ k (.str (a ++ b))
  | .lst a, .lst b, k => a.length + b.length ≤ Zz ∧ k (.lst (a ++ b))
  | .tup a, .tup b, k => a.length + b.length ≤ Zz ∧ k (.tup (a ++ b))
  | _, _, _ => False
theorem Rvs.app {xs ys : List V} {ds es : List Dt} (h : Rvs so O H xs ds) (k : Rvs so O H ys es) : Rvs so O H (xs ++ ys) (ds ++ es) := by
  refine ⟨by simp [h.1, k.1], fun i x d e1 e2 => ?_⟩
  rw [List.getElem?_append] at e1 e2
  by_cases hi : i < xs.length
  · rw [if_pos hi] at e1
    rw [if_pos (by rw [← h.1]; exact hi)] at e2
    exact h.2 i x d e1 e2
  · rw [if_neg hi] at e1
    rw [if_neg (by rw [← h.1]; exact hi), ← h.1] at e2
    exact k.2 _ x d e1 e2
theorem zl {n : Nat} (h : n ≤ Zz) : n ≤ sizeLine := Nat.le_trans h (by decide)
theorem str_app_len (a b : Str) : (a ++ b).length = a.length + b.length := by
  show (a.cps ++ b.cps).size = _
  rw [Array.size_append]
  rfl
theorem new_lst {p : Addr} {xs : List V} {ds : List Dt} (hO : ∀ a, O a → H a ≠ none) (hp : H p = none) (r : Rvs so O H xs ds) (hz : ds.length ≤ Zz) : Rv so O (upd H p (.lst xs)) (.ref p) (.lst ds) :=
  .lst (fun z => hO p z hp) upd_same r.1 hz fun i x d h1 h2 => (r.2 i x d h1 h2).ex (Ex.new hp)
theorem new_tup {p : Addr} {xs : List V} {ds : List Dt} (hO : ∀ a, O a → H a ≠ none) (hp : H p = none) (r : Rvs so O H xs ds) (hz : ds.length ≤ Zz) : Rv so O (upd H p (.tup xs)) (.ref p) (.tup ds) :=
  .tup (fun z => hO p z hp) upd_same r.1 hz fun i x d h1 h2 => (r.2 i x d h1 h2).ex (Ex.new hp)
theorem rop_add : Rop K (rAddU K) fAdd := fun so O H x y d e hO r1 r2 PD f Q q => by
  cases d with
  | int i =>
    cases e with
    | int j => cases int_rv r1; cases int_rv r2; exact .inl ⟨i, j, rfl, rfl, q _ _ H f (Ex.refl H) (.int _)⟩
    | _ => exact f.elim
  | str a =>
    cases e with
    | str b =>
      obtain ⟨h, p⟩ := f
      obtain ⟨rfl, _⟩ := str_rv r1
      obtain ⟨rfl, _⟩ := str_rv r2
      exact .inr (.inr (.inr ⟨a, b, rfl, rfl, zl h, q _ _ H p (Ex.refl H) (.str (by rw [str_app_len]; exact h))⟩))
    | _ => exact f.elim
  | lst a =>
    cases e with
    | lst b =>
      obtain ⟨h, p⟩ := f
      obtain ⟨a1, xs, rfl, _, h1, rs1, _⟩ := lst_rv r1
      obtain ⟨b1, ys, rfl, _, h2, rs2, _⟩ := lst_rv r2
      exact .inr (.inl ⟨a1, b1, xs, ys, rfl, rfl, h1, h2, zl (by rw [rs1.1, rs2.1]; exact h), fun p' hp => q _ _ _ p (Ex.new hp) (new_lst hO hp (rs1.app rs2) (by rw [List.length_append]; exact h))⟩)
    | _ => exact f.elim
  | tup a =>
    cases e with
    | tup b =>
      obtain ⟨h, p⟩ := f
      obtain ⟨a1, xs, rfl, _, h1, rs1, _⟩ := tup_rv r1
      obtain ⟨b1, ys, rfl, _, h2, rs2, _⟩ := tup_rv r2
      refine .inr (.inr (.inl ⟨a1, b1, xs, ys, rfl, rfl, .inl (.inl h1), .inl (.inl h2), zl (by rw [rs1.1, rs2.1]; exact h), fun z => ?_, fun _ z => ?_, fun _ _ p' hp => q _ _ _ p (Ex.new hp) (new_tup hO hp (rs1.app rs2) (by rw [List.length_append]; exact h))⟩))
      · have : a = [] := List.eq_nil_of_length_eq_zero (by rw [← rs1.1, z]; rfl)
        subst this
        exact q _ _ H p (Ex.refl H) (by rw [List.nil_append]; exact r2)
      · have : b = [] := List.eq_nil_of_length_eq_zero (by rw [← rs2.1, z]; rfl)
        subst this
        exact q _ _ H p (Ex.refl H) (by rw [List.append_nil]; exact r1)
    | _ => exact f.elim
  | _ => exact f.elim
theorem Rvs.rep {xs : List V} {ds : List Dt} (h : Rvs so O H xs ds) : ∀ m : Nat, Rvs so O H (List.replicate m xs).flatten (List.replicate m ds).flatten
  | 0 => Rvs.nil
  | m + 1 => by
    rw [List.replicate_succ, List.replicate_succ, List.flatten_cons, List.flatten_cons]
    exact h.app (h.rep m)
/-- * : numbers -/
def fMul : Dt → Dt → (Dt → Prop) → Prop
  | .int i, .int j, k => CMul i j ∧ k (.int (i * j))
  | .lst ds, .int n, k => 0 ≤ n ∧ n ≤ 1000 ∧ ds.length * n.toNat ≤ Zz ∧ k (.lst ((List.replicate n.toNat ds).flatten))
  | _, _, _ => False
theorem rop_mul : Rop K rMulU fMul := fun so O H x y d e hO r1 r2 PD f Q q => by
  cases d with
  | int i =>
    cases e with
    | int j => cases int_rv r1; cases int_rv r2; exact .inl ⟨i, j, rfl, rfl, f.1, q _ _ H f.2 (Ex.refl H) (.int _)⟩
    | _ => exact f.elim
  | lst ds =>
    cases e with
    | int n =>
      obtain ⟨h0, h1, h2, p⟩ := f
      obtain ⟨a1, xs, rfl, _, h3, rs1, _⟩ := lst_rv r1
      cases int_rv r2
      have hl : ∀ m : Nat, ((List.replicate m ds).flatten).length = ds.length * m := fun m => by simp [Nat.mul_comm]
      refine .inr (.inl ⟨a1, n, xs, rfl, rfl, h3, by omega, by omega, zl (by rw [rs1.1]; exact h2), fun p' hp => q _ _ _ p (Ex.new hp) (new_lst hO hp (rs1.rep n.toNat) (by rw [hl]; exact h2))⟩)
    | _ => exact f.elim
  | _ => exact f.elim
/-! ### ==, in -/
def flD : Dt → Bool
  | .non => true | .bl _ => true | .int _ => true | .str _ => true | _ => false
def eqF : Dt → Dt → Bool
  | .non, .non => true
  | .bl a, .bl b => a == b
  | .bl a, .int b => (if a then 1 else 0) == b
  | .int a, .bl b => a == (if b then 1 else 0)
  | .int a, .int b => a == b
  | .str a, .str b => a == b
  | _, _ => false
theorem fl_rv (r : Rv so O H x d) (h : flD d = true) : flatV x = true := by
  cases r <;> first | rfl | cases h
theorem eq_rv {e : Dt} (r1 : Rv so O H x d) (r2 : Rv so O H y e) (h1 : flD d = true) (h2 : flD e = true) : eqV x y = eqF d e := by
  cases r1 <;> first | (cases r2 <;> first | rfl | cases h2) | cases h1
mutual
def toP : Dt → PyData
  | .non => .none
  | .bl b => .bool b
  | .int i => .int i
  | .str x => .str x
  | .lst xs => .list (toPs xs)
  | .tup xs => .tuple (toPs xs)
  | .dct _ => .dict []
  | .ins _ _ => .dict []
  | .st => .dict []
  | .dtn _ _ => .dict []
def toPs : List Dt → List PyData
  | [] => []
  | x :: xs => toP x :: toPs xs
end
theorem rvs_dp {P : Dt → Prop} : ∀ {xs : List V} {ds : List Dt}, xs.length = ds.length → (∀ (i : Nat) x d, xs[i]? = some x → ds[i]? = some d → (toP d).canLay0 = true → Dp K H x (toP d)) → PyData.canLayAll0 (toPs ds) = true → DpAll K H xs (toPs ds)
  | [], [], _, _, _ => .nil
  | [], _ :: _, h, _, _ => by simp at h
  | _ :: _, [], h, _, _ => by simp at h
  | x :: xs, d :: ds, h, he, hc => by
    unfold toPs at hc ⊢
    unfold PyData.canLayAll0 at hc
    obtain ⟨h1, h2⟩ := Bool.and_eq_true_iff.mp hc
    exact .cons (he 0 x d rfl rfl h1) (rvs_dp (P := P) (by simpa using h) (fun i x d e1 e2 => he (i + 1) x d e1 e2) h2)
theorem rv_dp (r : Rv so O H x d) (h : (toP d).canLay0 = true) : Dp K H x (toP d) := by
  induction r with
  | non => unfold toP; exact .non
  | bl b => unfold toP; exact .bl b
  | int i => unfold toP; exact .int i
  | str hz => unfold toP; exact .str _
  | lst ho h1 hl hz he ih =>
    unfold toP at h ⊢
    unfold PyData.canLay0 at h
    exact .lst (.inl (.inl h1)) (rvs_dp (P := fun _ => True) hl ih h)
  | tup ho h1 hl hz he ih =>
    unfold toP at h ⊢
    unfold PyData.canLay0 at h
    exact .tup (.inl (.inl h1)) (rvs_dp (P := fun _ => True) hl ih h)
  | dct => unfold toP at h; unfold PyData.canLay0 at h; cases h
  | ins => unfold toP at h; unfold PyData.canLay0 at h; cases h
  | st => unfold toP at h; unfold PyData.canLay0 at h; cases h
  | dtn => unfold toP at h; unfold PyData.canLay0 at h; cases h
def shp (d : Dt) : Prop := SeqAt.shaped (toP d) = true
/-- a value of a dict that may be compared -/
def shk (d : Dt) : Prop := shp d ∧ (toP d).depth ≤ 60
def hitD (es ds : List (Key × Dt)) : Bool := ds.all fun p => match dlk es p.1 with
  | some u => PyData.eqv (toP p.2) (toP u)
  | none => false
/-- equal dicts -/
def eqK (ks ls : List (Key × Dt)) : Bool := ks.length == ls.length && hitD ls ks
theorem lkP_map (es : List (Key × Dt)) (k : Key) : lkP (es.map fun p => (p.1, toP p.2)) k = (dlk es k).map toP := by
  unfold lkP dlk
  rw [List.find?_map, Option.map_map, Option.map_map]
  rfl
theorem hitP_map (es ds : List (Key × Dt)) : hitP (es.map fun p => (p.1, toP p.2)) (ds.map fun p => (p.1, toP p.2)) = hitD es ds := by
  unfold hitP hitD
  rw [List.all_map]
  congr 1
  funext p
  show (match lkP (es.map fun p => (p.1, toP p.2)) p.1 with | some u => PyData.eqv (toP p.2) u | none => false) = _
  rw [lkP_map]
  cases dlk es p.1 <;> rfl
theorem tb_dpk : ∀ {xs : List (Key × V)} {ds : List (Key × Dt)}, Tb so O H xs ds → (∀ kv ∈ ds, shk kv.2) → (∀ (i : Nat) k x k' d, xs[i]? = some (k, x) → ds[i]? = some (k', d) → (toP d).canLay0 = true → Dp K H x (toP d)) → DpK K H xs (ds.map fun p => (p.1, toP p.2))
  | [], [], _, _, _ => .nil
  | [], _ :: _, h, _, _ => by have := h.len; simp at this
  | _ :: _, [], h, _, _ => by have := h.len; simp at this
  | p :: xs, q :: ds, h, hs, hd => by
    obtain ⟨h1, h2, h3⟩ := h.tail
    have s0 := hs q (List.mem_cons_self ..)
    exact .cons ⟨h1, hd 0 p.1 p.2 q.1 q.2 rfl rfl (SeqAt.canLay_of_shaped s0.1), s0.1, s0.2⟩ (tb_dpk h3 (fun kv hkv => hs kv (List.mem_cons_of_mem _ hkv)) fun i k x k' d e1 e2 => hd (i + 1) k x k' d e1 e2)
def fEq : Dt → Dt → (Dt → Prop) → Prop
  | .int i, .int j, k => k (.bl (decide (i = j)))
  | .str a, .str b, k => k (.bl (decide (a = b)))
  | .bl a, .bl b, k => k (.bl (decide (a = b)))
  | .dct ks, .dct ls, k => (∀ kv ∈ ks, shk kv.2) ∧ (∀ kv ∈ ls, shk kv.2) ∧ k (.bl (eqK ks ls))
  | d, e, k => shp d ∧ shp e ∧ k (.bl (PyData.eqv (toP d) (toP e)))
def fNe : Dt → Dt → (Dt → Prop) → Prop
  | .int i, .int j, k => k (.bl (!decide (i = j)))
  | .str a, .str b, k => k (.bl (!decide (a = b)))
  | .bl a, .bl b, k => k (.bl (!decide (a = b)))
  | .dct ks, .dct ls, k => (∀ kv ∈ ks, shk kv.2) ∧ (∀ kv ∈ ls, shk kv.2) ∧ k (.bl (!eqK ks ls))
  | d, e, k => shp d ∧ shp e ∧ k (.bl (!PyData.eqv (toP d) (toP e)))
theorem can_of {d : Dt} (h : shp d) : (toP d).canLay0 = true := SeqAt.canLay_of_shaped h
theorem rop_eq : Rop K (rEqU K) fEq := fun so O H x y d e hO r1 r2 PD f Q q => by
  have gen : shp d ∧ shp e ∧ PD (.bl (PyData.eqv (toP d) (toP e))) → rEqU K x y H Q := fun ⟨h1, h2, p⟩ =>
    .inr (.inr (.inl ⟨toP d, toP e, rv_dp r1 (can_of h1), rv_dp r2 (can_of h2), h1, h2, q _ _ H p (Ex.refl H) (.bl _)⟩))
  unfold fEq at f
  split at f
  · cases int_rv r1; cases int_rv r2
    rename_i i j
    refine .inl ⟨rfl, q (.bl (decide (V.int i = V.int j))) _ H f (Ex.refl H) ?_⟩
    rw [show decide (V.int i = V.int j) = decide (i = j) from decide_eq_decide.mpr ⟨V.int.inj, fun h => by rw [h]⟩]
    exact .bl _
  · obtain ⟨rfl, _⟩ := str_rv r1
    obtain ⟨rfl, _⟩ := str_rv r2
    rename_i i j _ _
    refine .inl ⟨rfl, q (.bl (decide (V.str i = V.str j))) _ H f (Ex.refl H) ?_⟩
    rw [show decide (V.str i = V.str j) = decide (i = j) from decide_eq_decide.mpr ⟨V.str.inj, fun h => by rw [h]⟩]
    exact .bl _
  · cases r1; cases r2
    rename_i i j
    refine .inl ⟨rfl, q (.bl (decide (V.bl i = V.bl j))) _ H f (Ex.refl H) ?_⟩
    rw [show decide (V.bl i = V.bl j) = decide (i = j) from decide_eq_decide.mpr ⟨V.bl.inj, fun h => by rw [h]⟩]
    exact .bl _
  · rename_i ks ls
    obtain ⟨h1, h2, p⟩ := f
    obtain ⟨a, xs, rfl, _, ra, ta, _⟩ := dct_rv r1
    obtain ⟨b, ys, rfl, _, rb, tb, _⟩ := dct_rv r2
    refine .inr (.inr (.inr ⟨a, b, xs, ys, _, _, rfl, rfl, ra, rb, tb_dpk ta h1 fun i k x k' d e1 e2 hc => rv_dp (ta.2 i k x k' d e1 e2) hc, tb_dpk tb h2 fun i k x k' d e1 e2 hc => rv_dp (tb.2 i k x k' d e1 e2) hc, ?_⟩))
    rw [hitP_map, ta.len, tb.len]
    exact q _ _ H p (Ex.refl H) (.bl _)
  · exact gen f
theorem rop_ne : Rop K (rNeU K) fNe := fun so O H x y d e hO r1 r2 PD f Q q => by
  have gen : shp d ∧ shp e ∧ PD (.bl (!PyData.eqv (toP d) (toP e))) → rNeU K x y H Q := fun ⟨h1, h2, p⟩ =>
    .inr (.inl ⟨toP d, toP e, rv_dp r1 (can_of h1), rv_dp r2 (can_of h2), h1, h2, q _ _ H p (Ex.refl H) (.bl _)⟩)
  unfold fNe at f
  split at f
  · cases int_rv r1; cases int_rv r2
    rename_i i j
    refine .inl ⟨rfl, q (.bl (!decide (V.int i = V.int j))) _ H f (Ex.refl H) ?_⟩
    rw [show decide (V.int i = V.int j) = decide (i = j) from decide_eq_decide.mpr ⟨V.int.inj, fun h => by rw [h]⟩]
    exact .bl _
  · obtain ⟨rfl, _⟩ := str_rv r1
    obtain ⟨rfl, _⟩ := str_rv r2
    rename_i i j _ _
    refine .inl ⟨rfl, q (.bl (!decide (V.str i = V.str j))) _ H f (Ex.refl H) ?_⟩
    rw [show decide (V.str i = V.str j) = decide (i = j) from decide_eq_decide.mpr ⟨V.str.inj, fun h => by rw [h]⟩]
    exact .bl _
  · cases r1; cases r2
    rename_i i j
    refine .inl ⟨rfl, q (.bl (!decide (V.bl i = V.bl j))) _ H f (Ex.refl H) ?_⟩
    rw [show decide (V.bl i = V.bl j) = decide (i = j) from decide_eq_decide.mpr ⟨V.bl.inj, fun h => by rw [h]⟩]
    exact .bl _
  · rename_i ks ls
    obtain ⟨h1, h2, p⟩ := f
    obtain ⟨a, xs, rfl, _, ra, ta, _⟩ := dct_rv r1
    obtain ⟨b, ys, rfl, _, rb, tb, _⟩ := dct_rv r2
    refine .inr (.inr ⟨a, b, xs, ys, _, _, rfl, rfl, ra, rb, tb_dpk ta h1 fun i k x k' d e1 e2 hc => rv_dp (ta.2 i k x k' d e1 e2) hc, tb_dpk tb h2 fun i k x k' d e1 e2 hc => rv_dp (tb.2 i k x k' d e1 e2) hc, ?_⟩)
    rw [hitP_map, ta.len, tb.len]
    exact q _ _ H p (Ex.refl H) (.bl _)
  · exact gen f
/-- x in a list, a tuple of flat items; a key in a dict; a sign in a text -/
def fIn (neg : Bool) : Dt → Dt → (Dt → Prop) → Prop
  | x, .lst ds, k => flD x = true ∧ ds.all flD = true ∧ k (.bl (if neg then !ds.any fun e => eqF e x else ds.any fun e => eqF e x))
  | x, .tup ds, k => flD x = true ∧ ds.all flD = true ∧ k (.bl (if neg then !ds.any fun e => eqF e x else ds.any fun e => eqF e x))
  | .str z, .dct kvs, k => k (.bl (if neg then !(dlk kvs (.inr z)).isSome else (dlk kvs (.inr z)).isSome))
  | .int i, .dct kvs, k => k (.bl (if neg then !(dlk kvs (.inl i)).isSome else (dlk kvs (.inl i)).isSome))
  | .str z, .str w, k => ∃ n, z = ⟨#[n]⟩ ∧ k (.bl (if neg then !decide (n ∈ w.cps.toList) else decide (n ∈ w.cps.toList)))
  | _, _, _ => False
theorem in_rvs (r : Rv so O H x d) (h : flD d = true) : ∀ {xs : List V} {ds : List Dt}, Rvs so O H xs ds → ds.all flD = true → xs.all flatV = true ∧ inV x xs = ds.any fun e => eqF e d
  | [], [], _, _ => ⟨rfl, rfl⟩
  | [], _ :: _, h, _ => by have := h.1; simp at this
  | _ :: _, [], h, _ => by have := h.1; simp at this
  | y :: xs, e :: ds, rs, ha => by
    have r0 := rs.2 0 y e rfl rfl
    have rt : Rvs so O H xs ds := ⟨by have := rs.1; simpa using this, fun i x d e1 e2 => rs.2 (i + 1) x d e1 e2⟩
    rw [List.all_cons] at ha
    obtain ⟨h1, h2⟩ := Bool.and_eq_true_iff.mp ha
    obtain ⟨i1, i2⟩ := in_rvs r h rt h2
    refine ⟨by rw [List.all_cons, fl_rv r0 h1, i1]; rfl, ?_⟩
    unfold inV at i2 ⊢
    rw [List.any_cons, List.any_cons, i2, eq_rv r0 r h1 h]
theorem rop_in : Rop K (rInA K) (fIn false) := fun so O H x y d e hO r1 r2 PD f Q q => by
  unfold fIn at f
  split at f
  · obtain ⟨h1, h2, p⟩ := f
    obtain ⟨a, xs, rfl, ho, h0, rs, hz⟩ := lst_rv r2
    obtain ⟨i1, i2⟩ := in_rvs r1 h1 rs h2
    exact .inl ⟨a, xs, rfl, .inl (.inl (.inl h0)), fl_rv r1 h1, i1, by rw [i2]; exact q _ _ H p (Ex.refl H) (.bl _)⟩
  · obtain ⟨h1, h2, p⟩ := f
    obtain ⟨a, xs, rfl, ho, h0, rs, hz⟩ := tup_rv r2
    obtain ⟨i1, i2⟩ := in_rvs r1 h1 rs h2
    exact .inl ⟨a, xs, rfl, .inr (.inl (.inl h0)), fl_rv r1 h1, i1, by rw [i2]; exact q _ _ H p (Ex.refl H) (.bl _)⟩
  · obtain ⟨rfl, _⟩ := str_rv r1
    obtain ⟨a, xs, rfl, ho, h0, tb, hz⟩ := dct_rv r2
    exact .inr (.inl ⟨a, _, rfl, .inl ⟨xs, .inr _, h0, rfl, rfl⟩, by rw [isSome_val tb]; exact q _ _ H f (Ex.refl H) (.bl _)⟩)
  · cases int_rv r1
    obtain ⟨a, xs, rfl, ho, h0, tb, hz⟩ := dct_rv r2
    exact .inr (.inl ⟨a, _, rfl, .inl ⟨xs, .inl _, h0, rfl, rfl⟩, by rw [isSome_val tb]; exact q _ _ H f (Ex.refl H) (.bl _)⟩)
  · obtain ⟨n, e, p⟩ := f
    obtain ⟨rfl, _⟩ := str_rv r1
    obtain ⟨rfl, _⟩ := str_rv r2
    exact .inr (.inr ⟨n, _, by rw [e], rfl, q _ _ H p (Ex.refl H) (.bl _)⟩)
  · exact f.elim
theorem rop_ni : Rop K (rNiA K) (fIn true) := fun so O H x y d e hO r1 r2 PD f Q q => by
  unfold fIn at f
  split at f
  · obtain ⟨h1, h2, p⟩ := f
    obtain ⟨a, xs, rfl, ho, h0, rs, hz⟩ := lst_rv r2
    obtain ⟨i1, i2⟩ := in_rvs r1 h1 rs h2
    exact .inl ⟨a, xs, rfl, .inl (.inl (.inl h0)), fl_rv r1 h1, i1, by rw [i2]; exact q _ _ H p (Ex.refl H) (.bl _)⟩
  · obtain ⟨h1, h2, p⟩ := f
    obtain ⟨a, xs, rfl, ho, h0, rs, hz⟩ := tup_rv r2
    obtain ⟨i1, i2⟩ := in_rvs r1 h1 rs h2
    exact .inl ⟨a, xs, rfl, .inr (.inl (.inl h0)), fl_rv r1 h1, i1, by rw [i2]; exact q _ _ H p (Ex.refl H) (.bl _)⟩
  · obtain ⟨rfl, _⟩ := str_rv r1
    obtain ⟨a, xs, rfl, ho, h0, tb, hz⟩ := dct_rv r2
    exact .inr (.inl ⟨a, _, rfl, .inl ⟨xs, .inr _, h0, rfl, rfl⟩, by rw [isSome_val tb]; exact q _ _ H f (Ex.refl H) (.bl _)⟩)
  · cases int_rv r1
    obtain ⟨a, xs, rfl, ho, h0, tb, hz⟩ := dct_rv r2
    exact .inr (.inl ⟨a, _, rfl, .inl ⟨xs, .inl _, h0, rfl, rfl⟩, by rw [isSome_val tb]; exact q _ _ H f (Ex.refl H) (.bl _)⟩)
  · obtain ⟨n, e, p⟩ := f
    obtain ⟨rfl, _⟩ := str_rv r1
    obtain ⟨rfl, _⟩ := str_rv r2
    exact .inr (.inr ⟨n, _, by rw [e], rfl, q _ _ H p (Ex.refl H) (.bl _)⟩)
  · exact f.elim
end
end Wv
/-! Calls of built-ins, slices, displays, targets, walks over trees. -/
namespace Wv
open PySem L2 Evl
section
variable {g : Gx} {c : Cc} {H H1 H2 H' : Hp} {σ : L2.St} {env e1 : List Sl} {ta tb te td ty tv tx : TE} {tt : TT} {t u tu tw : TS} {P : Dt → List Sl → Prop} {PL : List Dt → List Sl → Prop} {x y : V} {d : Dt} {E : De} {so : Option Addr} {O A O' : Addr → Prop} {K : PySem.W.Frag}
/-! ### len, all, any, sum, max, min, int -/
def fLen : List Dt → (Dt → Prop) → Prop
  | [.lst ds], k => k (.int ds.length)
  | [.tup ds], k => k (.int ds.length)
  | [.dct ds], k => k (.int ds.length)
  | [.str z], k => k (.int z.length)
  | _, _ => False
theorem rcl_len : Rcl K (rLenA K) fLen := fun so O H xs ds hO r PD f Q q => by
  unfold fLen at f
  split at f
  · obtain ⟨x, rfl, r1⟩ := one_rv r
    obtain ⟨a, xs, rfl, _, h, rs, _⟩ := lst_rv r1
    exact .inl ⟨a, xs, rfl, .inl (.inl (.inl h)), by rw [rs.1]; exact q _ _ H f (Ex.refl H) (.int _)⟩
  · obtain ⟨x, rfl, r1⟩ := one_rv r
    obtain ⟨a, xs, rfl, _, h, rs, _⟩ := tup_rv r1
    exact .inl ⟨a, xs, rfl, .inr (.inl (.inl h)), by rw [rs.1]; exact q _ _ H f (Ex.refl H) (.int _)⟩
  · obtain ⟨x, rfl, r1⟩ := one_rv r
    obtain ⟨a, xs, rfl, _, h, tb, _⟩ := dct_rv r1
    exact .inr (.inl ⟨a, xs, rfl, h, by rw [tb.len]; exact q _ _ H f (Ex.refl H) (.int _)⟩)
  · obtain ⟨x, rfl, r1⟩ := one_rv r
    obtain ⟨rfl, hz⟩ := str_rv r1
    exact .inr (.inr ⟨_, rfl, zl hz, q _ _ H f (Ex.refl H) (.int _)⟩)
  · exact f.elim
theorem bl_rvs : ∀ {xs : List V} {bs : List Bool}, Rvs so O H xs (bs.map Dt.bl) → xs = bs.map V.bl
  | [], [], _ => rfl
  | [], _ :: _, h => by have := h.1; simp at this
  | _ :: _, [], h => by have := h.1; simp at this
  | x :: xs, b :: bs, h => by
    have r0 := h.2 0 x (.bl b) rfl rfl
    cases r0
    rw [List.map_cons, bl_rvs (xs := xs) (bs := bs) ⟨by have := h.1; simpa using this, fun i x d e1 e2 => h.2 (i + 1) x d e1 e2⟩]
theorem int_rvs : ∀ {xs : List V} {bs : List Int}, Rvs so O H xs (bs.map Dt.int) → xs = bs.map V.int
  | [], [], _ => rfl
  | [], _ :: _, h => by have := h.1; simp at this
  | _ :: _, [], h => by have := h.1; simp at this
  | x :: xs, b :: bs, h => by
    have r0 := h.2 0 x (.int b) rfl rfl
    cases r0
    rw [List.map_cons, int_rvs (xs := xs) (bs := bs) ⟨by have := h.1; simpa using this, fun i x d e1 e2 => h.2 (i + 1) x d e1 e2⟩]
theorem str_rvs : ∀ {xs : List V} {bs : List Str}, Rvs so O H xs (bs.map Dt.str) → xs = bs.map V.str ∧ ∀ z ∈ bs, z.length ≤ Zz
  | [], [], _ => ⟨rfl, fun z h => by cases h⟩
  | [], _ :: _, h => by have := h.1; simp at this
  | _ :: _, [], h => by have := h.1; simp at this
  | x :: xs, b :: bs, h => by
    obtain ⟨rfl, hz⟩ := str_rv (h.2 0 x (.str b) rfl rfl)
    obtain ⟨i1, i2⟩ := str_rvs (xs := xs) (bs := bs) ⟨by have := h.1; simpa using this, fun i x d e1 e2 => h.2 (i + 1) x d e1 e2⟩
    rw [List.map_cons, i1]
    refine ⟨rfl, fun z hm => ?_⟩
    rcases List.mem_cons.mp hm with e | hm
    · rw [e]; exact hz
    · exact i2 z hm
theorem rvs_str {bs : List Str} (h : ∀ z ∈ bs, z.length ≤ Zz) : Rvs so O H (bs.map V.str) (bs.map Dt.str) := by
  refine ⟨by simp, fun i x d h1 h2 => ?_⟩
  rw [List.getElem?_map] at h1 h2
  cases e : bs[i]? with
  | none => rw [e] at h1; cases h1
  | some z => rw [e] at h1 h2; cases h1; cases h2; exact .str (h z (List.mem_of_getElem? e))
def fAll : List Dt → (Dt → Prop) → Prop := fun ds k => ∃ bs : List Bool, ds = [.lst (bs.map Dt.bl)] ∧ k (.bl (bs.all id))
def fAny : List Dt → (Dt → Prop) → Prop := fun ds k => ∃ bs : List Bool, ds = [.lst (bs.map Dt.bl)] ∧ k (.bl (bs.any id))
theorem rcl_all : Rcl K (rAll K) fAll := fun so O H xs ds hO r PD ⟨bs, e, p⟩ Q q => by
  subst e
  obtain ⟨x, rfl, r1⟩ := one_rv r
  obtain ⟨a, xs, rfl, _, h, rs, _⟩ := lst_rv r1
  exact ⟨a, bs, rfl, by rw [← bl_rvs rs]; exact .inl (.inl h), q _ _ H p (Ex.refl H) (.bl _)⟩
theorem rcl_any : Rcl K (rAny K) fAny := fun so O H xs ds hO r PD ⟨bs, e, p⟩ Q q => by
  subst e
  obtain ⟨x, rfl, r1⟩ := one_rv r
  obtain ⟨a, xs, rfl, _, h, rs, _⟩ := lst_rv r1
  exact ⟨a, bs, rfl, by rw [← bl_rvs rs]; exact .inl (.inl h), q _ _ H p (Ex.refl H) (.bl _)⟩
def fSum : List Dt → (Dt → Prop) → Prop := fun ds k => ∃ ns : List Int, ds = [.lst (ns.map Dt.int)] ∧ k (.int ns.sum)
theorem rcl_sum : Rcl K (rSum K) fSum := fun so O H xs ds hO r PD ⟨bs, e, p⟩ Q q => by
  subst e
  obtain ⟨x, rfl, r1⟩ := one_rv r
  obtain ⟨a, xs, rfl, _, h, rs, _⟩ := lst_rv r1
  exact ⟨a, bs, rfl, by rw [← int_rvs rs]; exact .inl (.inl h), q _ _ H p (Ex.refl H) (.int _)⟩
def fMax : List Dt → (Dt → Prop) → Prop := fun ds k => ∃ ns : List Int, ds = [.lst (ns.map Dt.int)] ∧ 0 < ns.length ∧ ∀ m, m ∈ ns → (∀ y, y ∈ ns → y ≤ m) → k (.int m)
theorem rcl_max : Rcl K (rMax K) fMax := fun so O H xs ds hO r PD ⟨bs, e, h0, p⟩ Q q => by
  subst e
  obtain ⟨x, rfl, r1⟩ := one_rv r
  obtain ⟨a, xs, rfl, _, h, rs, _⟩ := lst_rv r1
  exact ⟨a, bs, rfl, by rw [← int_rvs rs]; exact .inl (.inl h), h0, fun m h1 h2 => q _ _ H (p m h1 h2) (Ex.refl H) (.int _)⟩
def fMin : List Dt → (Dt → Prop) → Prop := fun ds k => ∃ ns : List Int, ds = [.lst (ns.map Dt.int)] ∧ 0 < ns.length ∧ ∀ m, m ∈ ns → (∀ y, y ∈ ns → m ≤ y) → k (.int m)
theorem rcl_min : Rcl K (rMin K) fMin := fun so O H xs ds hO r PD ⟨bs, e, h0, p⟩ Q q => by
  subst e
  obtain ⟨x, rfl, r1⟩ := one_rv r
  obtain ⟨a, xs, rfl, _, h, rs, _⟩ := lst_rv r1
  exact ⟨a, bs, rfl, by rw [← int_rvs rs]; exact .inl (.inl h), h0, fun m h1 h2 => q _ _ H (p m h1 h2) (Ex.refl H) (.int _)⟩
def fInt : List Dt → (Dt → Prop) → Prop
  | [.int i], k => k (.int i)
  | [.bl b], k => k (.int (if b then 1 else 0))
  | _, _ => False
theorem rcl_int : Rcl K rIntU fInt := fun so O H xs ds hO r PD f Q q => by
  unfold fInt at f
  split at f
  · obtain ⟨x, rfl, r1⟩ := one_rv r
    cases int_rv r1
    exact .inl ⟨_, rfl, q _ _ H f (Ex.refl H) (.int _)⟩
  · obtain ⟨x, rfl, r1⟩ := one_rv r
    cases r1
    exact .inr ⟨_, rfl, q _ _ H f (Ex.refl H) (.int _)⟩
  · exact f.elim
/-! ### isinstance -/
def tyD : Dt → Option String
  | .non => some "NoneType" | .bl _ => some "bool" | .int _ => some "int" | .str _ => some "str" | .lst _ => some "list" | .tup _ => some "tuple" | .dct _ => some "dict" | _ => none
theorem ty_rv {t : String} (r : Rv so O H x d) (h : tyD d = some t) : TyX K H x (.type t) := by
  cases r with
  | non => cases h; exact .base .non
  | bl b => cases h; exact .base (.bl b)
  | int i => cases h; exact .base (.int i)
  | str hz => cases h; exact .base (.str _)
  | lst ho h1 => cases h; exact .base (.lst h1)
  | tup ho h1 => cases h; exact .base (.tup h1)
  | dct ho h1 =>
    cases h
    rcases h1 with h1 | ⟨o, h1⟩
    · exact .base (.dK h1)
    · exact .fDict h1
  | ins => cases h
  | st => cases h
  | dtn => cases h
def isL : Dt → Bool | .lst _ => true | .tup _ => true | _ => false
def isI : Dt → Bool | .int _ => true | .bl _ => true | _ => false
def isBo : Dt → Bool | .bl _ => true | _ => false
def isS : Dt → Bool | .str _ => true | _ => false
def isLs : Dt → Bool | .lst _ => true | _ => false
def isTu : Dt → Bool | .tup _ => true | _ => false
def isDc : Dt → Bool | .dct _ => true | _ => false
theorem et_isD {n : String} (f : Dt → Bool) (hf : ∀ d t, tyD d = some t → kitB t n = some (f d)) (h : Et g env te fun d e => (tyD d).isSome = true ∧ P (.bl (f d)) e) : Et g env (tCB (rIsU g.K) (tCons te (tCons (tC (.ty n)) tNil))) P := fun c L σ H S Q q =>
  h c L σ H S _ fun x d e H1 ⟨ht, p⟩ S1 l k r => by
    obtain ⟨t, ht⟩ := Option.isSome_iff_exists.mp ht
    exact .inl ⟨x, .ty n, .type t, .type n, f d, rfl, .ty n, .base (ty_rv r ht), kit_ty (hf d t ht), q _ _ e H1 p S1 l k (.bl _)⟩
theorem isk {n : String} {f : Dt → Bool} (h1 : kitB "NoneType" n = some (f .non)) (h2 : ∀ b, kitB "bool" n = some (f (.bl b))) (h3 : ∀ i, kitB "int" n = some (f (.int i))) (h4 : ∀ z, kitB "str" n = some (f (.str z)))
    (h5 : ∀ ds, kitB "list" n = some (f (.lst ds))) (h6 : ∀ ds, kitB "tuple" n = some (f (.tup ds))) (h7 : ∀ ds, kitB "dict" n = some (f (.dct ds))) : ∀ d t, tyD d = some t → kitB t n = some (f d) := fun d t h => by
  cases d with
  | non => cases h; exact h1
  | bl b => cases h; exact h2 b
  | int b => cases h; exact h3 b
  | str b => cases h; exact h4 b
  | lst b => cases h; exact h5 b
  | tup b => cases h; exact h6 b
  | dct b => cases h; exact h7 b
  | ins => cases h
  | st => cases h
  | dtn hs ds => cases h
theorem et_isInt (h : Et g env te fun d e => (tyD d).isSome = true ∧ P (.bl (isI d)) e) : Et g env (tCB (rIsU g.K) (tCons te (tCons (tC (.ty "int")) tNil))) P :=
  et_isD isI (isk (by decide +kernel) (fun _ => (by decide +kernel : kitB "bool" "int" = some true)) (fun _ => (by decide +kernel : kitB "int" "int" = some true)) (fun _ => (by decide +kernel : kitB "str" "int" = some false)) (fun _ => (by decide +kernel : kitB "list" "int" = some false)) (fun _ => (by decide +kernel : kitB "tuple" "int" = some false)) fun _ => (by decide +kernel : kitB "dict" "int" = some false)) h
theorem et_isBool (h : Et g env te fun d e => (tyD d).isSome = true ∧ P (.bl (isBo d)) e) : Et g env (tCB (rIsU g.K) (tCons te (tCons (tC (.ty "bool")) tNil))) P :=
  et_isD isBo (isk (by decide +kernel) (fun _ => (by decide +kernel : kitB "bool" "bool" = some true)) (fun _ => (by decide +kernel : kitB "int" "bool" = some false)) (fun _ => (by decide +kernel : kitB "str" "bool" = some false)) (fun _ => (by decide +kernel : kitB "list" "bool" = some false)) (fun _ => (by decide +kernel : kitB "tuple" "bool" = some false)) fun _ => (by decide +kernel : kitB "dict" "bool" = some false)) h
theorem et_isStr (h : Et g env te fun d e => (tyD d).isSome = true ∧ P (.bl (isS d)) e) : Et g env (tCB (rIsU g.K) (tCons te (tCons (tC (.ty "str")) tNil))) P :=
  et_isD isS (isk (by decide +kernel) (fun _ => (by decide +kernel : kitB "bool" "str" = some false)) (fun _ => (by decide +kernel : kitB "int" "str" = some false)) (fun _ => (by decide +kernel : kitB "str" "str" = some true)) (fun _ => (by decide +kernel : kitB "list" "str" = some false)) (fun _ => (by decide +kernel : kitB "tuple" "str" = some false)) fun _ => (by decide +kernel : kitB "dict" "str" = some false)) h
theorem et_isList (h : Et g env te fun d e => (tyD d).isSome = true ∧ P (.bl (isLs d)) e) : Et g env (tCB (rIsU g.K) (tCons te (tCons (tC (.ty "list")) tNil))) P :=
  et_isD isLs (isk (by decide +kernel) (fun _ => (by decide +kernel : kitB "bool" "list" = some false)) (fun _ => (by decide +kernel : kitB "int" "list" = some false)) (fun _ => (by decide +kernel : kitB "str" "list" = some false)) (fun _ => (by decide +kernel : kitB "list" "list" = some true)) (fun _ => (by decide +kernel : kitB "tuple" "list" = some false)) fun _ => (by decide +kernel : kitB "dict" "list" = some false)) h
theorem et_isTuple (h : Et g env te fun d e => (tyD d).isSome = true ∧ P (.bl (isTu d)) e) : Et g env (tCB (rIsU g.K) (tCons te (tCons (tC (.ty "tuple")) tNil))) P :=
  et_isD isTu (isk (by decide +kernel) (fun _ => (by decide +kernel : kitB "bool" "tuple" = some false)) (fun _ => (by decide +kernel : kitB "int" "tuple" = some false)) (fun _ => (by decide +kernel : kitB "str" "tuple" = some false)) (fun _ => (by decide +kernel : kitB "list" "tuple" = some false)) (fun _ => (by decide +kernel : kitB "tuple" "tuple" = some true)) fun _ => (by decide +kernel : kitB "dict" "tuple" = some false)) h
theorem et_isDict (h : Et g env te fun d e => (tyD d).isSome = true ∧ P (.bl (isDc d)) e) : Et g env (tCB (rIsU g.K) (tCons te (tCons (tC (.ty "dict")) tNil))) P :=
  et_isD isDc (isk (by decide +kernel) (fun _ => (by decide +kernel : kitB "bool" "dict" = some false)) (fun _ => (by decide +kernel : kitB "int" "dict" = some false)) (fun _ => (by decide +kernel : kitB "str" "dict" = some false)) (fun _ => (by decide +kernel : kitB "list" "dict" = some false)) (fun _ => (by decide +kernel : kitB "tuple" "dict" = some false)) fun _ => (by decide +kernel : kitB "dict" "dict" = some true)) h
def tC2 (ns : List String) : TA := ns.foldr (fun n r => tCons (tC (.ty n)) r) tNil
/-- isinstance(x, (a, b, ..)) of built-in types -/
theorem et_isT (ns : List String) (f : Dt → Bool) (hl : ns.length ≤ 100) (hf : ∀ d t, tyD d = some t → kitBs t ns = some (f d)) (h : Et g env te fun d e => (tyD d).isSome = true ∧ P (.bl (f d)) e) : Et g env (tCB (rIsU g.K) (tCons te (tCons (tTup (tC2 ns)) tNil))) P := fun c L σ H S Q q =>
  h c L σ H S _ fun x d e H1 ⟨ht, p⟩ S1 l k r => by
    obtain ⟨t, ht⟩ := Option.isSome_iff_exists.mp ht
    have run : ∀ (ns : List String) (Q : List V → Hp → Prop), Q (ns.map V.ty) H1 → tC2 ns σ H1 Q := fun ns => by
      induction ns with
      | nil => exact fun Q q => q
      | cons n r ih => exact fun Q q => ih _ q
    refine run ns _ ⟨sz_of (by rw [List.length_map]; omega), fun tp hp => ?_⟩
    exact .inr ⟨x, tp, _, .type t, _, f d, rfl, upd_same, clsv_tys ns, .base (ty_rv (r.ex (Ex.new hp)) ht), kitBs_ok (hf d t ht), q _ _ e _ p (S1.ex (Ex.new hp)) l (k.trans (Ko.new hp)) (.bl _)⟩
theorem iskT {ns : List String} {f : Dt → Bool} (h1 : kitBs "NoneType" ns = some (f .non)) (h2 : ∀ b, kitBs "bool" ns = some (f (.bl b))) (h3 : ∀ i, kitBs "int" ns = some (f (.int i))) (h4 : ∀ z, kitBs "str" ns = some (f (.str z)))
    (h5 : ∀ ds, kitBs "list" ns = some (f (.lst ds))) (h6 : ∀ ds, kitBs "tuple" ns = some (f (.tup ds))) (h7 : ∀ ds, kitBs "dict" ns = some (f (.dct ds))) : ∀ d t, tyD d = some t → kitBs t ns = some (f d) := fun d t h => by
  cases d with
  | non => cases h; exact h1
  | bl b => cases h; exact h2 b
  | int b => cases h; exact h3 b
  | str b => cases h; exact h4 b
  | lst b => cases h; exact h5 b
  | tup b => cases h; exact h6 b
  | dct b => cases h; exact h7 b
  | ins => cases h
  | st => cases h
  | dtn hs ds => cases h
theorem et_isLT (h : Et g env te fun d e => (tyD d).isSome = true ∧ P (.bl (isL d)) e) : Et g env (tCB (rIsU g.K) (tCons te (tCons (tTup (tCons (tC (.ty "list")) (tCons (tC (.ty "tuple")) tNil))) tNil))) P :=
  et_isT ["list", "tuple"] isL (by decide) (iskT (by decide +kernel) (fun _ => (by decide +kernel : kitBs "bool" ["list", "tuple"] = some false)) (fun _ => (by decide +kernel : kitBs "int" ["list", "tuple"] = some false)) (fun _ => (by decide +kernel : kitBs "str" ["list", "tuple"] = some false)) (fun _ => (by decide +kernel : kitBs "list" ["list", "tuple"] = some true)) (fun _ => (by decide +kernel : kitBs "tuple" ["list", "tuple"] = some true)) fun _ => (by decide +kernel : kitBs "dict" ["list", "tuple"] = some false)) h
/-! ### what is walked, by any kind -/
def kDt : Key → Dt
  | .inl i => .int i
  | .inr z => .str z
def itD : Dt → (List Dt → Prop) → Prop
  | .lst ds, k => k ds
  | .tup ds, k => k ds
  | .str z, k => k (strD z)
  | .dct kvs, k => (∀ kv ∈ kvs, ∀ z, kv.1 = .inr z → z.length ≤ Zz) ∧ k (kvs.map fun kv => kDt kv.1)
  | _, _ => False
theorem wk_str {z : Str} (hz : z.length ≤ Zz) : Wk so A (Its z) (strD z) H1 := by
  have hl : (strD z).length = z.cps.size := by simp [strD]
  refine ⟨by rw [hl]; exact hz, fun i H' hi k => by rw [hl] at hi; exact hi, fun H' k => by rw [hl]; exact Nat.le_refl _, fun O' i H' x H'' hi k h1 h2 ⟨e, k', hk, y⟩ => ?_⟩
  subst e y
  refine ⟨Ex.refl _, .str ⟨#[k']⟩, ?_, .str (by show 1 ≤ Zz; decide)⟩
  unfold strD
  rw [List.getElem?_map, Array.getElem?_toList, hk]
  rfl
theorem wk_keys {a : Addr} {od : Obj} {xs : List (Key × V)} {kvs : List (Key × Dt)} (ho : ¬ A a) (h : H1 a = some (.frz od (.dK xs))) (hk : xs.map (·.1) = kvs.map (·.1)) (hz : kvs.length ≤ Zz) (hs : ∀ kv ∈ kvs, ∀ z, kv.1 = Sum.inr z → z.length ≤ Zz) :
    Wk so A (Itk a od xs) (kvs.map fun kv => kDt kv.1) H1 := by
  have hl : xs.length = kvs.length := by have := congrArg List.length hk; simpa using this
  have at_ : ∀ H', Ko A A H1 H' → H' a = some (.frz od (.dK xs)) := fun H' k => k.keep1 ho h fun _ z => nomatch z
  refine ⟨by rw [List.length_map]; exact hz, fun i H' hi k => ⟨at_ H' k, by rw [List.length_map] at hi; omega⟩, fun H' k => ⟨at_ H' k, by rw [List.length_map]; omega⟩, fun O' i H' x H'' hi k h1 h2 ⟨e, k', v, hkv, y⟩ => ?_⟩
  subst e y
  have e1 : (xs.map (·.1))[i]? = some k' := by rw [List.getElem?_map, hkv]; rfl
  rw [hk, List.getElem?_map] at e1
  cases e2 : kvs[i]? with
  | none => rw [e2] at e1; cases e1
  | some q =>
    rw [e2] at e1
    cases e1
    refine ⟨Ex.refl _, kDt q.1, by rw [List.getElem?_map, e2]; rfl, ?_⟩
    have hq := hs q (List.mem_of_getElem? e2)
    show Rv so O' H'' (kV q.1) (kDt q.1)
    cases e3 : q.1 with
    | inl i => exact .int i
    | inr z => exact .str (hq z e3)
/-- the dict at a is locked -/
theorem Sv.lock {a : Addr} {od : Obj} {xs : List (Key × V)} (S : Sv g.K c H σ env) (hl : c.lk = true) (ha : ¬ Av c σ env a) (h : H a = some (.dK xs)) : Sv g.K c (upd H a (.frz od (.dK xs))) σ env ∧ Ko (Mv c σ env) (An c σ env) H (upd H a (.frz od (.dK xs))) := by
  have k : ∀ {M : Addr → Prop}, Ko M (An c σ env) H (upd H a (.frz od (.dK xs))) := fun {M} => ⟨fun b o n e => by
    by_cases hb : b = a
    · subst hb
      rw [h] at e
      cases e
      exact .inr ⟨fun z => z.elim (fun z => by rw [hl] at z; cases z) ha, xs, od, rfl, upd_same⟩
    · rw [upd_ne hb]; exact .inl e, fun b e => upd_some e⟩
  have nO : ¬ c.O a := fun z => ha (.inl z)
  refine ⟨⟨⟨S.base.trans (k.mono (fun _ z => z) fun b z => z.elim (fun z => by rw [S.lkb hl] at z; cases z) fun z => .inr (.inl z)), S.lkb, S.sO, fun b z => upd_some (S.dom b z), S.stt.put (fun s hs => ⟨fun z => nO (by rw [z]; exact (S.sO s (.inl hs)).1), fun z => nO (by rw [z]; exact (S.sO s (.inl hs)).2 s hs)⟩) ⟨_, h, (fun _ z => nomatch z), (fun _ z => nomatch z)⟩⟩, S.len, S.uniq, fun i d z => ?_, fun i d z => ?_⟩, k⟩
  · obtain ⟨y, z1, z2⟩ := S.tree i d z
    exact ⟨y, z1, z2.keep k⟩
  · obtain ⟨y, z1, z2, z3, z4⟩ := S.own i d z
    exact ⟨y, z1, z2, z3, z4.keep k (upd_ne fun q => ha (by rw [← q]; exact .inr ⟨i, d, z, z1⟩))⟩
/-- a list, a tuple or a text walked -/
def itS : Dt → (List Dt → Prop) → Prop
  | .lst ds, k => k ds
  | .tup ds, k => k ds
  | .str z, k => k (strD z)
  | _, _ => False
theorem ei_seq (h : Et g env te fun d e => itS d fun ds => PL ds e) : Ei g env (iAny g.K te) PL := fun c L σ H S R q =>
  h c L σ H S _ fun x d e H1 p S1 l k r => by
    have p : itS d (fun ds => PL ds e) := p
    cases d with
    | lst ds =>
      obtain ⟨a, xs, rfl, ho, h0, rs, hz⟩ := lst_rv r
      exact .inl ⟨a, rfl, ⟨xs, .inl (.inl h0)⟩, q _ _ e H1 p S1 l k (wk_list r)⟩
    | tup ds =>
      obtain ⟨a, xs, rfl, ho, h0, rs, hz⟩ := tup_rv r
      exact .inr (.inl ⟨a, rfl, ⟨xs, .inl (.inl h0)⟩, q _ _ e H1 p S1 l k (wk_tup r)⟩)
    | str z =>
      obtain ⟨rfl, hz⟩ := str_rv r
      exact .inr (.inr (.inl ⟨_, rfl, q _ _ e H1 p S1 l k (wk_str hz)⟩))
    | _ => exact p.elim
theorem ei_any (hgl : g.lk = true) (h : Et g env te fun d e => itD d fun ds => PL ds e) : Ei g env (iAny g.K te) PL := fun c L σ H S R q =>
  have hl : c.lk = true := L.1.symm.trans hgl
  h c L σ H S _ fun x d e H1 p S1 l k r => by
    have p : itD d (fun ds => PL ds e) := p
    cases d with
    | lst ds =>
      obtain ⟨a, xs, rfl, ho, h0, rs, hz⟩ := lst_rv r
      exact .inl ⟨a, rfl, ⟨xs, .inl (.inl h0)⟩, q _ _ e H1 p S1 l k (wk_list r)⟩
    | tup ds =>
      obtain ⟨a, xs, rfl, ho, h0, rs, hz⟩ := tup_rv r
      exact .inr (.inl ⟨a, rfl, ⟨xs, .inl (.inl h0)⟩, q _ _ e H1 p S1 l k (wk_tup r)⟩)
    | str z =>
      obtain ⟨rfl, hz⟩ := str_rv r
      exact .inr (.inr (.inl ⟨_, rfl, q _ _ e H1 p S1 l k (wk_str hz)⟩))
    | dct kvs =>
      obtain ⟨hs, p⟩ := p
      obtain ⟨a, xs, rfl, ho, h0, tb, hz⟩ := dct_rv r
      rcases h0 with h0 | ⟨od, h0⟩
      · exact .inr (.inr (.inr (.inr ⟨a, xs, rfl, h0, fun od => q _ _ e _ p (S1.lock hl ho h0).1 l (k.trans ((S1.lock hl ho h0).2.le l)) (wk_keys ho upd_same tb.1 hz hs)⟩)))
      · exact .inr (.inr (.inr (.inl ⟨a, od, xs, rfl, h0, q _ _ e H1 p S1 l k (wk_keys ho h0 tb.1 hz hs)⟩)))
    | _ => exact p.elim
end
end Wv
/-! Fresh lists by calls and slices, two targets at once, augmented assignments, tuples taken apart. -/
namespace Wv
open PySem PySem.Spec PyProof.Rows L2 Evl
section
variable {g : Gx} {c : Cc} {H H1 H2 H' : Hp} {σ : L2.St} {env e1 : List Sl} {ta tb te td ty tv tx te1 te2 : TE} {tt : TT} {t u tu tw : TS} {P : Dt → List Sl → Prop} {PL : List Dt → List Sl → Prop} {x y : V} {d : Dt} {E : De} {so : Option Addr} {O A O' : Addr → Prop} {K : PySem.W.Frag}
/-- what stands at a: a container and its items -/
def Cn (so : Option Addr) (O : Addr → Prop) (H : Hp) (a : Addr) : Dt → Prop
  | .lst ds => ∃ xs, H a = some (.lst xs) ∧ Rvs so O H xs ds ∧ ds.length ≤ Zz
  | .tup ds => ∃ xs, H a = some (.tup xs) ∧ Rvs so O H xs ds ∧ ds.length ≤ Zz
  | .dct ds => ∃ xs, Rd H a (.dK xs) ∧ Tb so O H xs ds ∧ ds.length ≤ Zz
  | .dtn _ _ => True
  | _ => False
def isC : Dt → Bool | .lst _ => true | .tup _ => true | .dct _ => true | _ => false
theorem rv_cn (r : Rv so O H x d) (h : isC d = true) : ∃ a, x = .ref a ∧ Cn so O H a d := by
  cases d with
  | lst ds => obtain ⟨a, xs, e, _, h0, rs, hz⟩ := lst_rv r; exact ⟨a, e, xs, h0, rs, hz⟩
  | tup ds => obtain ⟨a, xs, e, _, h0, rs, hz⟩ := tup_rv r; exact ⟨a, e, xs, h0, rs, hz⟩
  | dct ds => obtain ⟨a, xs, e, _, h0, rs, hz⟩ := dct_rv r; exact ⟨a, e, xs, h0, rs, hz⟩
  | _ => cases h
theorem ol_cn {a : Addr} (h : Ol so O H a d) : Cn so O H a d := by
  cases d with
  | lst ds => obtain ⟨xs, h1, h2, h3, h4⟩ := h; exact ⟨xs, h1, ⟨h2, h4⟩, h3⟩
  | dct ds => obtain ⟨xs, h1, h2, h3, h4⟩ := h; exact ⟨xs, .inl h1, ⟨h2, h4⟩, h3⟩
  | dtn _ _ => exact trivial
  | _ => exact h.elim
/-- a call that makes a new list of a container -/
def Rcf (K : PySem.W.Frag) (r : List V → Hp → VK → Prop) (f : Dt → (Dt → Prop) → Prop) : Prop := (∀ d PD, f d PD → isC d = true) ∧ ∀ so O H a d, Cn so O H a d → ∀ PD, f d PD → ∀ Q : VK,
  (∀ p ys es, PD (.lst es) → H p = none → Rvs so O H ys es → es.length ≤ Zz → Q (.ref p) (upd H p (.lst ys))) → r [.ref a] H Q
theorem ol_new {p : Addr} {ys : List V} {es : List Dt} (rs : Rvs so O H ys es) (hz : es.length ≤ Zz) (hp : H p = none) (h : ∀ a, O' a → O a ∨ a = p) : Ol so O' (upd H p (.lst ys)) p (.lst es) :=
  ⟨ys, upd_same, rs.1, hz, fun i x d h1 h2 => ((rs.2 i x d h1 h2).avoid fun b z => (h b z).imp id fun z => by rw [z]; exact hp).ex (Ex.new hp)⟩
theorem ef_cb {r : List V → Hp → VK → Prop} {f : Dt → (Dt → Prop) → Prop} (hr : Rcf g.K r f) (h : Et g env te fun d e1 => f d fun t => P t e1) : Ef g env (tCB r (tCons te tNil)) P := fun c L σ H S Q q =>
  h c L σ H S _ fun x d e1 H1 p S1 l1 k1 r1 => by
    obtain ⟨a, rfl, cn⟩ := rv_cn r1 (hr.1 _ _ p)
    exact hr.2 _ _ H1 a d cn _ p Q fun p' ys es hp hn rs hz => q p' (.lst es) e1 _ hp (S1.add hn) l1 (k1.trans (Ko.new hn)) (k1.back hn) (ol_new rs hz hn fun b z => Av.add.mp z)
theorem ef_cbO {r : List V → Hp → VK → Prop} {f : Dt → (Dt → Prop) → Prop} {i : Nat} (hr : Rcf g.K r f) (h0 : env[i]? = some (Sl.own d)) (h : f d fun t => P t env) : Ef g env (tCB r (tCons (tVar i) tNil)) P := fun c L σ H S Q q => by
  obtain ⟨a, h1, _, _, o⟩ := S.own i d h0
  exact ⟨.ref a, h1, hr.2 _ _ H a d (ol_cn o) _ h Q fun p' ys es hp hn rs hz => q p' (.lst es) env _ hp (S.add hn) Le.refl (Ko.new hn) hn (ol_new rs hz hn fun b z => Av.add.mp z)⟩
def fList : Dt → (Dt → Prop) → Prop
  | .lst ds, k => k (.lst ds)
  | .tup ds, k => k (.lst ds)
  | .dct kvs, k => (∀ kv ∈ kvs, ∀ z, kv.1 = .inr z → z.length ≤ Zz) ∧ k (.lst (kvs.map fun kv => kDt kv.1))
  | _, _ => False
theorem keys_rvs {xs : List (Key × V)} {kvs : List (Key × Dt)} (hk : xs.map (·.1) = kvs.map (·.1)) (hs : ∀ kv ∈ kvs, ∀ z, kv.1 = Sum.inr z → z.length ≤ Zz) : Rvs so O H (xs.map fun kv => kV kv.1) (kvs.map fun kv => kDt kv.1) := by
  have e : (xs.map fun kv => kV kv.1) = (kvs.map fun kv => kV kv.1) := by
    have e1 : ∀ {α : Type} (l : List (Key × α)), (l.map fun kv => kV kv.1) = (l.map (·.1)).map kV := fun l => by rw [List.map_map]; rfl
    rw [e1, e1, hk]
  rw [e]
  refine ⟨by simp, fun i x d h1 h2 => ?_⟩
  rw [List.getElem?_map] at h1 h2
  cases e2 : kvs[i]? with
  | none => rw [e2] at h1; cases h1
  | some q =>
    rw [e2] at h1 h2
    cases h1
    cases h2
    have hq := hs q (List.mem_of_getElem? e2)
    show Rv so O H (kV q.1) (kDt q.1)
    cases e3 : q.1 with
    | inl i => exact .int i
    | inr z => exact .str (hq z e3)
theorem rcf_list : Rcf K (rListA K) fList := ⟨fun d PD f => by cases d <;> first | rfl | exact f.elim, fun so O H a d cn PD f Q q => by
  cases d with
  | lst ds => obtain ⟨xs, h0, rs, hz⟩ := cn; exact .inl ⟨a, xs, rfl, .inl (.inl (.inl h0)), fun l hl => q l xs ds f hl rs hz⟩
  | tup ds => obtain ⟨xs, h0, rs, hz⟩ := cn; exact .inl ⟨a, xs, rfl, .inr (.inl (.inl h0)), fun l hl => q l xs ds f hl rs hz⟩
  | dct kvs => obtain ⟨xs, h0, tb, hz⟩ := cn; exact .inr ⟨a, xs, rfl, h0, fun l hl => q l _ _ f.2 hl (keys_rvs tb.1 f.1) (by rw [List.length_map]; exact hz)⟩
  | _ => exact f.elim⟩
def fSort : Dt → (Dt → Prop) → Prop
  | .lst ds, k => ∃ zs : List Str, ds = zs.map Dt.str ∧ zs.length < 64 ∧ ∀ ys : List Str, ys.Perm zs → sortedS ys = true → k (.lst (ys.map Dt.str))
  | .dct kvs, k => ∃ zs : List Str, kvs.map (·.1) = zs.map Sum.inr ∧ (∀ z ∈ zs, z.length ≤ Zz) ∧ zs.length < 64 ∧ ∀ ys : List Str, ys.Perm zs → sortedS ys = true → k (.lst (ys.map Dt.str))
  | _, _ => False
theorem rcf_sort : Rcf K (rSortA K) fSort := ⟨fun d PD f => by cases d <;> first | rfl | exact f.elim, fun so O H a d cn PD f Q q => by
  cases d with
  | lst ds =>
    obtain ⟨xs, h0, rs, hz⟩ := cn
    obtain ⟨zs, e, h64, k⟩ := f
    subst e
    obtain ⟨e, hs⟩ := str_rvs rs
    subst e
    exact .inl ⟨a, zs, rfl, .inl (.inl h0), h64, fun ys p hp h1 hn => q p _ _ (k ys hp h1) hn (rvs_str fun z hm => hs z (hp.mem_iff.mp hm)) (by rw [List.length_map, hp.length_eq]; simp only [Zz]; omega)⟩
  | dct kvs =>
    obtain ⟨xs, h0, tb, hz⟩ := cn
    obtain ⟨zs, e, hs, h64, k⟩ := f
    exact .inr ⟨a, xs, zs, rfl, h0, tb.1.trans e, h64, fun ys p hp h1 hn => q p _ _ (k ys hp h1) hn (rvs_str fun z hm => hs z (hp.mem_iff.mp hm)) (by rw [List.length_map, hp.length_eq]; simp only [Zz]; omega)⟩
  | _ => exact f.elim⟩
/-- tuple(x) -/
def fTup : Dt → (Dt → Prop) → Prop
  | .lst ds, k => k (.tup ds)
  | .tup ds, k => k (.tup ds)
  | _, _ => False
theorem et_tuple (h : Et g env te fun d e1 => fTup d fun t => P t e1) : Et g env (tCB (rTupA g.K) (tCons te tNil)) P := fun c L σ H S Q q =>
  h c L σ H S _ fun x d e1 H1 p S1 l1 k1 r1 => by
    cases d with
    | lst ds =>
      obtain ⟨a, xs, rfl, ho, h0, rs, hz⟩ := lst_rv r1
      exact ⟨a, xs, rfl, .inl ⟨.inl (.inl h0), fun l hl => q _ _ e1 _ p (S1.ex (Ex.new hl)) l1 (k1.trans (Ko.new hl)) (new_tup S1.lk_av hl rs hz)⟩⟩
    | tup ds =>
      obtain ⟨a, xs, rfl, ho, h0, rs, hz⟩ := tup_rv r1
      exact ⟨a, xs, rfl, .inr ⟨.inl (.inl h0), q _ _ e1 _ p S1 l1 k1 r1⟩⟩
    | _ => exact (show False from p).elim
/-! ### slices -/
def Eo (g : Gx) (env : List Sl) (to : TO) (P : Option Int → List Sl → Prop) : Prop := ∀ c, Lk g c → ∀ σ H, Sv g.K c H σ env → ∀ Q : Option Int → Hp → Prop,
  (∀ b env' H1, P b env' → Sv g.K c H1 σ env' → Le env' env → Ko (Mv c σ env) (An c σ env) H H1 → Q b H1) → to σ H Q
theorem eo_none {P : Option Int → List Sl → Prop} (p : P none env) : Eo g env tNoPart P := fun c L σ H S Q q => q none env H p S Le.refl Ko.refl
theorem eo_some {P : Option Int → List Sl → Prop} (h : Et g env te fun d e => ∃ i, d = .int i ∧ P (some i) e) : Eo g env (tPart te) P := fun c L σ H S Q q =>
  h c L σ H S _ fun x d e1 H1 ⟨i, e0, p⟩ S1 l k r => by
    subst e0
    cases int_rv r
    exact ⟨i, rfl, q (some i) e1 H1 p S1 l k⟩
def ctD (ds : List Dt) (lo hi : Option Int) : List Dt := (ds.drop (HT.sIx ds.length 0 lo)).take (HT.sIx ds.length ds.length hi - HT.sIx ds.length 0 lo)
theorem ctD_len (ds : List Dt) (lo hi : Option Int) : (ctD ds lo hi).length ≤ ds.length := by
  unfold ctD
  rw [List.length_take, List.length_drop]
  omega
theorem Rvs.drop {xs : List V} {ds : List Dt} (r : Rvs so O H xs ds) (n : Nat) : Rvs so O H (xs.drop n) (ds.drop n) := ⟨by simp [r.1], fun i x d h1 h2 => by
  rw [List.getElem?_drop] at h1 h2
  exact r.2 _ x d h1 h2⟩
theorem Rvs.take {xs : List V} {ds : List Dt} (r : Rvs so O H xs ds) (n : Nat) : Rvs so O H (xs.take n) (ds.take n) := ⟨by simp [r.1], fun i x d h1 h2 => by
  rw [List.getElem?_take] at h1 h2
  split at h1
  · rename_i hi
    rw [if_pos hi] at h2
    exact r.2 _ x d h1 h2
  · cases h1⟩
theorem Rvs.cut {xs : List V} {ds : List Dt} (r : Rvs so O H xs ds) (lo hi : Option Int) : Rvs so O H (cutV xs lo hi) (ctD ds lo hi) := by
  unfold cutV ctD
  rw [r.1]
  exact (r.drop _).take _
def fSl (lo hi : Option Int) : Dt → (Dt → Prop) → Prop
  | .lst ds, k => k (.lst (ctD ds lo hi))
  | .tup ds, k => k (.tup (ctD ds lo hi))
  | .str z, k => k (.str (cutS z lo hi))
  | _, _ => False
theorem et_sl {tl th : TO} (h : Et g env te fun d e => Eo g e tl fun lo e2 => Eo g e2 th fun hi e3 => fSl lo hi d fun t => P t e3) : Et g env (tSl (rSlU g.K) te tl th) P := fun c L σ H S Q q =>
  h c L σ H S _ fun x d e1 H1 p1 S1 l1 k1 r1 => p1 c L σ H1 S1 _ fun lo e2 H2 p2 S2 l2 k2 => p2 c L σ H2 S2 _ fun hi e3 H3 p S3 l3 k3 => by
    have r3 := (S2.kp ((S1.kp r1 k2).mono (Av.le l2)) k3).mono (Av.le l3)
    have kk := (k1.trans (k2.le l1)).trans (k3.le (l1.trans l2))
    have ll := (l1.trans l2).trans l3
    cases d with
    | lst ds =>
      obtain ⟨a, xs, rfl, ho, h0, rs, hz⟩ := lst_rv r3
      exact .inl ⟨a, xs, rfl, .inl (.inl h0), fun l hl => q _ _ e3 _ p (S3.ex (Ex.new hl)) ll (kk.trans (Ko.new hl)) (new_lst S3.lk_av hl (rs.cut lo hi) (Nat.le_trans (ctD_len _ _ _) hz))⟩
    | tup ds =>
      obtain ⟨a, xs, rfl, ho, h0, rs, hz⟩ := tup_rv r3
      refine .inr (.inl ⟨a, xs, rfl, .inl (.inl h0), fun ⟨z1, z2⟩ => q _ _ e3 _ p S3 ll kk ?_, fun _ l hl => q _ _ e3 _ p (S3.ex (Ex.new hl)) ll (kk.trans (Ko.new hl)) (new_tup S3.lk_av hl (rs.cut lo hi) (Nat.le_trans (ctD_len _ _ _) hz))⟩)
      have e : ctD ds lo hi = ds := by
        unfold ctD
        rw [← rs.1, z1, z2]
        simp [rs.1]
      rw [e]
      exact r3
    | str z =>
      obtain ⟨rfl, hz⟩ := str_rv r3
      exact .inr (.inr ⟨z, rfl, zl hz, q _ _ e3 _ p S3 ll kk (.str (Nat.le_trans (cutS_length _ _ _) hz))⟩)
    | _ => exact (show False from p).elim
theorem ef_sl {tl th : TO} (h : Et g env te fun d e => ∃ ds, d = .lst ds ∧ Eo g e tl fun lo e2 => Eo g e2 th fun hi e3 => P (.lst (ctD ds lo hi)) e3) : Ef g env (tSl (rSlU g.K) te tl th) P := fun c L σ H S Q q =>
  h c L σ H S _ fun x d e1 H1 ⟨ds, e0, p1⟩ S1 l1 k1 r1 => p1 c L σ H1 S1 _ fun lo e2 H2 p2 S2 l2 k2 => p2 c L σ H2 S2 _ fun hi e3 H3 p S3 l3 k3 => by
    subst e0
    have r3 := (S2.kp ((S1.kp r1 k2).mono (Av.le l2)) k3).mono (Av.le l3)
    have kk := (k1.trans (k2.le l1)).trans (k3.le (l1.trans l2))
    have ll := (l1.trans l2).trans l3
    obtain ⟨a, xs, rfl, ho, h0, rs, hz⟩ := lst_rv r3
    exact .inl ⟨a, xs, rfl, .inl (.inl h0), fun l hl => q l _ e3 _ p (S3.add hl) ll (kk.trans (Ko.new hl)) (kk.back hl) (ol_new (rs.cut lo hi) (Nat.le_trans (ctD_len _ _ _) hz) hl fun b z => Av.add.mp z)⟩
/-! ### two targets at once -/
/-- two values for two names -/
def Pr (g : Gx) (env : List Sl) (te1 te2 : TE) (i j : Nat) (nx : List Sl → Prop) : Prop := ∀ c, Lk g c → ∀ σ H, Sv g.K c H σ env → ∀ G : List V → Hp → Prop,
  (∀ v w H' env', Sv g.K c H' ((σ.set i (some v)).set j (some w)) env' → Fw c σ env H ((σ.set i (some v)).set j (some w)) env' H' → nx env' → G [v, w] H') → tCons te1 (tCons te2 tNil) σ H G
theorem Pr.par {i j : Nat} (h : Pr g env te1 te2 i j E.nx) : Wd g env (tPar i j (tCons te1 (tCons te2 tNil))) E := fun c L σ H S D n b k r =>
  h c L σ H S _ fun v w H' e' S' f p => ⟨v, w, rfl, n _ H' e' S' f p⟩
theorem Pr.tup {i j : Nat} (h : Pr g env te1 te2 i j E.nx) : Wd g env (tAsg (tTup (tCons te1 (tCons te2 tNil))) (gTup g.K 2 (gCons (gName i) (gCons (gName j) gNil)))) E := fun c L σ H S D n b k r => by
  show tCons te1 (tCons te2 tNil) σ H fun xs H1 => xs.length ≤ sizeLine ∧ ∀ p, H1 p = none → gTup g.K 2 (gCons (gName i) (gCons (gName j) gNil)) (.ref p) σ (upd H1 p (.tup xs)) D.nx
  exact h c L σ H S _ fun v w H' e' S' f p => ⟨sz_of (Nat.le_of_ble_eq_true rfl), fun q hq => ⟨q, [v, w], rfl, .inl (.inl upd_same), rfl, v, [w], rfl, w, [], rfl, rfl, n _ _ e' (S'.ex (Ex.new hq)) (f.trans ⟨Ko.ex (Ex.new hq), fun _ z => .inl z⟩) p⟩⟩
theorem pr_VV {i j : Nat} (h : Et g env te1 fun d1 e => Et g e te2 fun d2 e2 => E.nx ((e2.set i (.v d1)).set j (.v d2))) : Pr g env te1 te2 i j E.nx := fun c L σ H S G n =>
  h c L σ H S _ fun x d e1 H1 p1 S1 l1 k1 r1 => p1 c L σ H1 S1 _ fun y d2 e2 H2 p2 S2 l2 k2 r2 => by
    have r1' := (S1.kp r1 k2).mono (Av.le l2)
    refine n (x) (y) H2 _ ((S2.set_v (i := i) r1').set_v (i := j) (r2.mono av_set_v)) (((fw_e l1 k1).trans (fw_e l2 k2)).trans ⟨Ko.refl, fun a z => .inl (ow_set_v (ow_set_v z))⟩) p2
/-- what stands beside a fresh one -/
theorem ol_stay {p : Addr} {e2 : List Sl} (S1 : Sv g.K (c.add p) H1 σ e1) (S2 : Sv g.K (c.add p) H2 σ e2) (l : Le e2 e1) (k : Ko (Mv (c.add p) σ e1) (An (c.add p) σ e1) H1 H2) (hs : ∀ s, Chg c.so c.cc s → p ≠ s) (o : Ol c.so (Av (c.add p) σ e1) H1 p d) : Ol c.so (Av (c.add p) σ e2) H2 p d := by
  have nm : ¬ Mv (c.add p) σ e1 p := fun z => by
    rcases z with z | ⟨i, d', z1, z2⟩
    · exact hs p z rfl
    · obtain ⟨b, w1, _, w3, _⟩ := S1.own i d' z1
      rw [z2] at w1
      cases w1
      exact w3 (.inr rfl)
  exact (o.keep (k.mono (Mv.av S1.sO) fun _ z => z) (k.same nm (.inr (.inl (.inr rfl))) o.some)).mono (Av.le l)
theorem fresh_so (S : Sv g.K c H σ env) {p : Addr} (hp : H p = none) : ∀ s, Chg c.so c.cc s → p ≠ s := fun s z q => S.dom s (S.sO s z).1 (by rw [← q]; exact hp)
theorem pr_OV {i j : Nat} (h : Ef g env te1 fun d1 e => Et g e te2 fun d2 e2 => E.nx ((e2.set i (.own d1)).set j (.v d2))) : Pr g env te1 te2 i j E.nx := fun c L σ H S G n =>
  h c L σ H S _ fun p d e1 H1 p1 S1 l1 k1 hp o1 => p1 (c.add p) (L.add S.sO) σ H1 S1 _ fun y d2 e2 H2 p2 S2 l2 k2 r2 => by
    have o2 := ol_stay S1 S2 l2 k2 (fresh_so S hp) o1
    have T := S2.set_o (i := i) S.sO (fun z => S.dom p z hp) (base_none S hp) o2
    refine n (.ref p) (y) H2 _ (T.set_v (i := j) (r2.mono av_set_o)) ⟨k1.trans ((k2.mono (O' := Mv c σ e1) (A' := An c σ e1) (fun a z => z) fun a z => z.imp id fun z => Av.add.mpr (.inl z)).le l1), fun a z => ?_⟩ p2
    rcases ow_set_o (ow_set_v z) with z | z
    · exact (fw_e (l1.trans l2) k1).2 a z
    · exact .inr (by rw [z]; exact hp)
theorem pr_VO {i j : Nat} (h : Et g env te1 fun d1 e => Ef g e te2 fun d2 e2 => E.nx ((e2.set i (.v d1)).set j (.own d2))) : Pr g env te1 te2 i j E.nx := fun c L σ H S G n =>
  h c L σ H S _ fun x d e1 H1 p1 S1 l1 k1 r1 => p1 c L σ H1 S1 _ fun p d2 e2 H2 p2 S2 l2 k2 hp o2 => by
    have r1' : Rv c.so (Av (c.add p) σ e2) H2 x d := r1.later (k2.mono (Mv.av S1.sO) fun _ z => z) fun a z => (Av.add.mp z).imp (Av.le l2 a) fun z => by rw [z]; exact hp
    refine n (x) (.ref p) H2 _ ((S2.set_v (i := i) r1').set_o (i := j) S.sO (fun z => S1.dom p z hp) (base_none S1 hp) (o2.mono av_set_v)) ⟨(k1.trans (k2.le l1)), fun a z => ?_⟩ p2
    rcases ow_set_o z with z | z
    · exact (fw_e (l1.trans l2) k1).2 a (ow_set_v z)
    · exact .inr (by rw [z]; exact k1.back hp)
theorem add_comm (p p' : Addr) : (c.add p).add p' = (c.add p').add p := by
  unfold Cc.add
  have : (fun a => (c.O a ∨ a = p) ∨ a = p') = fun a => (c.O a ∨ a = p') ∨ a = p := funext fun a => propext ⟨fun h => h.elim (fun h => h.elim (fun h => .inl (.inl h)) .inr) fun h => .inl (.inr h), fun h => h.elim (fun h => h.elim (fun h => .inl (.inl h)) .inr) fun h => .inl (.inr h)⟩
  simp only [this]
theorem pr_OO {i j : Nat} (h : Ef g env te1 fun d1 e => Ef g e te2 fun d2 e2 => E.nx ((e2.set i (.own d1)).set j (.own d2))) : Pr g env te1 te2 i j E.nx := fun c L σ H S G n =>
  h c L σ H S _ fun p d e1 H1 p1 S1 l1 k1 hp o1 => p1 (c.add p) (L.add S.sO) σ H1 S1 _ fun p' d2 e2 H2 p2 S2 l2 k2 hp' o2 => by
    have nm : ¬ Mv (c.add p) σ e1 p := fun z => by
      rcases z with z | ⟨i, d', z1, z2⟩
      · exact fresh_so S hp p z rfl
      · obtain ⟨b, w1, _, w3, _⟩ := S1.own i d' z1
        rw [z2] at w1
        cases w1
        exact w3 (.inr rfl)
    have o1' : Ol c.so (Av ((c.add p).add p') σ e2) H2 p d := ((o1.avoid (O' := fun a => Av (c.add p) σ e1 a ∨ Av ((c.add p).add p') σ e2 a) fun a z => z.elim .inl fun z => (Av.add.mp z).imp (Av.le l2 a) fun z => by rw [z]; exact hp').keep (k2.mono (fun a z => .inl (Mv.av S1.sO a z)) fun _ z => z) (k2.same nm (.inr (.inl (.inr rfl))) o1.some)).mono fun a z => .inr z
    have pn : p' ≠ p := fun z => by rw [z] at hp'; exact o1.some hp'
    have hp2 : H p' = none := k1.back hp'
    rw [add_comm] at S2 o2 o1'
    have T1 := S2.set_o (i := i) (fun s z => ⟨.inl (S.sO s z).1, fun s' z' => .inl ((S.sO s z).2 s' z')⟩) (fun z => Or.elim (show c.O p ∨ p = p' from z) (fun z => S.dom p z hp) fun z => pn z.symm) (show (c.add p').B p = none from base_none S hp) o1'
    refine n (.ref p) (.ref p') H2 _ (T1.set_o (i := j) S.sO (fun z => S.dom p' z hp2) (base_none S hp2) (o2.mono av_set_o)) ⟨k1.trans ((k2.mono (O' := Mv c σ e1) (A' := An c σ e1) (fun a z => z) fun a z => z.imp id fun z => Av.add.mpr (.inl z)).le l1), fun a z => ?_⟩ p2
    rcases ow_set_o z with z | z
    · rcases ow_set_o z with z | z
      · exact (fw_e (l1.trans l2) k1).2 a z
      · exact .inr (by rw [z]; exact hp)
    · exact .inr (by rw [z]; exact hp2)
theorem wd_parOV {i j : Nat} (h : Ef g env te1 fun d1 e => Et g e te2 fun d2 e2 => E.nx ((e2.set i (.own d1)).set j (.v d2))) : Wd g env (tPar i j (tCons te1 (tCons te2 tNil))) E := (pr_OV h).par
theorem wd_tupOV {i j : Nat} (h : Ef g env te1 fun d1 e => Et g e te2 fun d2 e2 => E.nx ((e2.set i (.own d1)).set j (.v d2))) : Wd g env (tAsg (tTup (tCons te1 (tCons te2 tNil))) (gTup g.K 2 (gCons (gName i) (gCons (gName j) gNil)))) E := (pr_OV h).tup
theorem wd_parVO {i j : Nat} (h : Et g env te1 fun d1 e => Ef g e te2 fun d2 e2 => E.nx ((e2.set i (.v d1)).set j (.own d2))) : Wd g env (tPar i j (tCons te1 (tCons te2 tNil))) E := (pr_VO h).par
theorem wd_tupVO {i j : Nat} (h : Et g env te1 fun d1 e => Ef g e te2 fun d2 e2 => E.nx ((e2.set i (.v d1)).set j (.own d2))) : Wd g env (tAsg (tTup (tCons te1 (tCons te2 tNil))) (gTup g.K 2 (gCons (gName i) (gCons (gName j) gNil)))) E := (pr_VO h).tup
theorem wd_parOO {i j : Nat} (h : Ef g env te1 fun d1 e => Ef g e te2 fun d2 e2 => E.nx ((e2.set i (.own d1)).set j (.own d2))) : Wd g env (tPar i j (tCons te1 (tCons te2 tNil))) E := (pr_OO h).par
theorem wd_tupOO {i j : Nat} (h : Ef g env te1 fun d1 e => Ef g e te2 fun d2 e2 => E.nx ((e2.set i (.own d1)).set j (.own d2))) : Wd g env (tAsg (tTup (tCons te1 (tCons te2 tNil))) (gTup g.K 2 (gCons (gName i) (gCons (gName j) gNil)))) E := (pr_OO h).tup
theorem wd_par {i j : Nat} (h : Et g env te1 fun d1 e => Et g e te2 fun d2 e2 => E.nx ((e2.set i (.v d1)).set j (.v d2))) : Wd g env (tPar i j (tCons te1 (tCons te2 tNil))) E := (pr_VV h).par
theorem wd_tup {i j : Nat} (h : Et g env te1 fun d1 e => Et g e te2 fun d2 e2 => E.nx ((e2.set i (.v d1)).set j (.v d2))) : Wd g env (tAsg (tTup (tCons te1 (tCons te2 tNil))) (gTup g.K 2 (gCons (gName i) (gCons (gName j) gNil)))) E := (pr_VV h).tup
/-! ### a, b = t; x += n -/
def Tgs (g : Gx) (env : List Sl) (gt : TGs) (ds : List Dt) (P : List Sl → Prop) : Prop := ∀ c σ H xs, Sv g.K c H σ env → Rvs c.so (Av c σ env) H xs ds → ∀ Q : L2.St → Hp → Prop, (∀ σ' env', Sv g.K c H σ' env' → Fw c σ env H σ' env' H → (∀ a, Av c σ' env' a → Av c σ env a) → P env' → Q σ' H) → gt xs σ H Q
def Tgv (g : Gx) (env : List Sl) (gt : TG) (d : Dt) (P : List Sl → Prop) : Prop := ∀ c σ H x, Sv g.K c H σ env → Rv c.so (Av c σ env) H x d → ∀ Q : L2.St → Hp → Prop, (∀ σ' env', Sv g.K c H σ' env' → Fw c σ env H σ' env' H → (∀ a, Av c σ' env' a → Av c σ env a) → P env' → Q σ' H) → gt x σ H Q
theorem Tgv.tg {gt : TG} {Pe : List Sl → Prop} (h : Tgv g env gt d Pe) : Tg g env gt d Pe := fun c σ H x S r Q q => h c σ H x S r Q fun σ' e' S' f _ p => q σ' e' S' f p
theorem tv_name {i : Nat} {Pe : List Sl → Prop} (h : Pe (env.set i (.v d))) : Tgv g env (gName i) d Pe := fun c σ H x S r Q q => q _ _ (S.set_v r) ⟨Ko.refl, fun a z => .inl (ow_set_v z)⟩ av_set_v h
theorem tgs_nil {Pe : List Sl → Prop} (h : Pe env) : Tgs g env gNil [] Pe := fun c σ H xs S r Q q => ⟨List.eq_nil_of_length_eq_zero r.1, q σ env S Fw.refl (fun _ z => z) h⟩
theorem tgs_cons {gt : TG} {gr : TGs} {ds : List Dt} {Pe : List Sl → Prop} (h : Tgv g env gt d fun e => Tgs g e gr ds Pe) : Tgs g env (gCons gt gr) (d :: ds) Pe := fun c σ H xs S r Q q => by
  match xs, r with
  | [], r => exact absurd r.1 (by simp)
  | x :: xs, r =>
    have rt : Rvs c.so (Av c σ env) H xs ds := ⟨by have := r.1; simpa using this, fun i y e e1 e2 => r.2 (i + 1) y e e1 e2⟩
    exact ⟨x, xs, rfl, h c σ H x S (r.2 0 x d rfl rfl) _ fun σ1 e1 S1 f1 a1 p1 => p1 c σ1 H xs S1 (rt.mono a1) Q fun σ2 e2 S2 f2 a2 p2 => q σ2 e2 S2 (f1.trans f2) (fun a z => a1 a (a2 a z)) p2⟩
theorem tv_tup {n : Nat} {gt : TGs} {ds : List Dt} {Pe : List Sl → Prop} (h : Tgs g env gt ds Pe) (hn : ds.length = n := by rfl) : Tgv g env (gTup g.K n gt) (.tup ds) Pe := fun c σ H x S r Q q => by
  obtain ⟨a, xs, rfl, ho, h0, rs, hz⟩ := tup_rv r
  exact ⟨a, xs, rfl, .inl (.inl h0), rs.1.trans hn, h c σ H xs S rs Q q⟩
theorem wd_asgT {gt : TG} (h : Et g env te fun d e => Tgv g e gt d E.nx) : Wd g env (tAsg te gt) E := fun c L σ H S D n b k r =>
  h c L σ H S _ fun x d e1 H1 p S1 l1 k1 r1 => p c σ H1 x S1 r1 _ fun σ' e' S' f _ q => n σ' H1 e' S' ((fw_e l1 k1).trans f) q
theorem wd_aug {i : Nat} {f : Int → Int → Int} {m : Int} (h0 : env[i]? = some (Sl.v (.int m))) (h : Et g env te fun d e => ∃ n, d = .int n ∧ E.nx (e.set i (.v (.int (f m n))))) : Wd g env (tAug i te (ipI f)) E := fun c L σ H S D n b k r => by
  obtain ⟨x, h1, rx⟩ := S.tree i _ h0
  cases int_rv rx
  exact ⟨_, h1, h c L σ H S _ fun y d e1 H1 ⟨m2, e0, p⟩ S1 l1 k1 r1 => by
    subst e0
    cases int_rv r1
    exact ⟨m, m2, rfl, rfl, n _ H1 _ (S1.set_v (.int _)) ((fw_e l1 k1).trans ⟨Ko.refl, fun a z => .inl (ow_set_v z)⟩) p⟩⟩
end
end Wv
/-! Promises in short; comprehensions that map; chains; pop. -/
namespace Wv
open PySem PySem.Spec PyProof.Rows L2 Evl
section
variable {g : Gx} {c : Cc} {H H1 H2 H' : Hp} {σ : L2.St} {env e1 : List Sl} {ta tb tc te td ty tv tx te1 te2 : TE} {tt : TT} {t u tu tw : TS} {P : Dt → List Sl → Prop} {PL : List Dt → List Sl → Prop} {x y : V} {d : Dt} {E : De} {so : Option Addr} {O A O' : Addr → Prop} {K : PySem.W.Frag}
theorem isB_eq {d : Dt} {k : Bool → Prop} (h : isB d k) : ∃ b, d = .bl b ∧ k b := isB_dt h
theorem et_chain {r r' : R2} {f f' : Dt → Dt → (Dt → Prop) → Prop} (hr : Rop g.K r f) (hr' : Rop g.K r' f')
    (h : Et g env ta fun d e1 => Et g e1 tb fun e e2 => f d e fun z => isB z fun b => if b = true then Et g e2 tc fun w e3 => f' e w fun t => P t e3 else P (.bl false) e2) : Et g env (tChain r r' ta tb tc) P := fun c L σ H S Q q =>
  h c L σ H S _ fun x d env1 H1 p1 S1 l1 k1 r1 => p1 c L σ H1 S1 _ fun y e env2 H2 p2 S2 l2 k2 r2 =>
    hr c.so (Av c σ env2) H2 x y d e S2.lk_av ((S1.kp r1 k2).mono (Av.le l2)) r2 _ p2 _ fun z t H3 p3 e3 r3 => by
      obtain ⟨b, rfl, p4⟩ := isB_eq p3
      cases r3
      refine ⟨b, rfl, ?_⟩
      have S3 := S2.ex e3
      have k3 := (k1.trans (k2.le l1)).trans (Ko.ex e3)
      cases b with
      | false => exact q _ _ env2 H3 p4 S3 (l1.trans l2) k3 (.bl false)
      | true =>
        refine p4 c L σ H3 S3 _ fun w dw env3 H4 p5 S4 l4 k4 r4 => ?_
        exact hr' c.so (Av c σ env3) H4 y w e dw S4.lk_av ((S3.kp (r2.ex e3) k4).mono (Av.le l4)) r4 _ p5 Q fun z t H5 p6 e5 r5 =>
          q z t env3 H5 p6 (S4.ex e5) ((l1.trans l2).trans l4) ((k3.trans (k4.le (l1.trans l2))).trans (Ko.ex e5)) r5
/-- is None -/
def fIsN (neg : Bool) : Dt → Dt → (Dt → Prop) → Prop
  | .non, .non, k => k (.bl (!neg))
  | _, .non, k => k (.bl neg)
  | _, _, _ => False
theorem rop_isN : Rop K (fun x y H Q => y = .non ∧ Q (.bl (decide (x = .non))) H) (fIsN false) := fun so O H x y d e hO r1 r2 PD f Q q => by
  cases e with
  | non =>
    cases r2
    refine ⟨rfl, ?_⟩
    cases r1 <;> exact q _ _ H f (Ex.refl H) (.bl _)
  | _ => cases d <;> exact f.elim
theorem rop_notN : Rop K (fun x y H Q => y = .non ∧ Q (.bl (!decide (x = .non))) H) (fIsN true) := fun so O H x y d e hO r1 r2 PD f Q q => by
  cases e with
  | non =>
    cases r2
    refine ⟨rfl, ?_⟩
    cases r1 <;> exact q _ _ H f (Ex.refl H) (.bl _)
  | _ => cases d <;> exact f.elim
/-! ### comprehensions that keep some items and map them -/
theorem eb_yes {P : Bool → List Sl → Prop} (p : P true env) : Eb g env tYes P := fun c L σ H S Q q => q true env H p S Le.refl Ko.refl
def nOwn (env : List Sl) (j : Nat) : Prop := ∀ d0, env[j]? ≠ some (Sl.own d0)
theorem nown_of {j : Nat} {s : Sl} (h : env[j]? = some s) (hs : ∀ d, s ≠ .own d) : nOwn env j := fun d0 z => by
  rw [h] at z
  cases z
  exact hs d0 rfl
/-- [f x for x in .. if p x] -/
theorem ef_map {wi : TI} {j : Nat} (p : Dt → Bool) (f : Dt → Dt) (h : Ei g env wi fun ds e1 => nOwn e1 j ∧ (∀ d ∈ ds, Eb g (e1.set j (.v d)) tt fun b e2 => e2 = e1.set j (.v d) ∧ b = p d) ∧
    (∀ d ∈ ds, p d = true → Et g (e1.set j (.v d)) te fun t e3 => e3 = e1.set j (.v d) ∧ t = f d) ∧ P (.lst ((ds.filter p).map f)) e1) : Ef g env (tLc wi (gName j) tt te [j]) P := ef_lc fun c L σ H S R q =>
  h c L σ H S R fun J ds e1 H1 ⟨h1, h2, h3, h4⟩ => q J ds e1 H1 ⟨h1, fun i acc => acc = ((ds.take i).filter p).map f, rfl, fun i d acc hi hI => by
    have hm := List.mem_of_getElem? hi
    refine fun c L σ H S Q q => h2 d hm c L σ H S Q fun b e2 H1 ⟨z1, z2⟩ => q b e2 H1 ⟨z1, ?_⟩
    have ht : ds.take (i + 1) = ds.take i ++ [d] := by
      rw [List.take_add_one, hi]; rfl
    subst z2
    cases hp : p d with
    | true =>
      refine iteT (fun c L σ H S Q q => h3 d hm hp c L σ H S Q fun x t e3 H1 ⟨w1, w2⟩ => q x t e3 H1 ⟨w1, ?_⟩)
      show _ = ((ds.take (i + 1)).filter p).map f
      rw [hI, w2, ht, List.filter_append, List.map_append]
      simp [hp]
    | false =>
      refine iteF ?_
      show _ = ((ds.take (i + 1)).filter p).map f
      rw [hI, ht, List.filter_append, List.map_append]
      simp [hp], fun acc hI => by rw [hI, List.take_length]; exact h4⟩
/-- [f x for x in ..] -/
theorem ef_mapY {wi : TI} {j : Nat} (f : Dt → Dt) (h : Ei g env wi fun ds e1 => nOwn e1 j ∧ (∀ d ∈ ds, Et g (e1.set j (.v d)) te fun t e3 => e3 = e1.set j (.v d) ∧ t = f d) ∧ P (.lst (ds.map f)) e1) : Ef g env (tLc wi (gName j) tYes te [j]) P :=
  ef_map (fun _ => true) f fun c L σ H S R q => h c L σ H S R fun J ds e1 H1 ⟨h1, h2, h3⟩ => q J ds e1 H1 ⟨h1, fun d _ => eb_yes ⟨rfl, rfl⟩, fun d hd _ => h2 d hd, by rw [List.filter_eq_self.mpr fun _ _ => rfl]; exact h3⟩
/-- all([b x for x in ..]) -/
theorem et_allY {wi : TI} {j : Nat} (f : Dt → Bool) (h : Ei g env wi fun ds e1 => nOwn e1 j ∧ (∀ d ∈ ds, Et g (e1.set j (.v d)) te fun t e3 => e3 = e1.set j (.v d) ∧ t = .bl (f d)) ∧ P (.bl (ds.all f)) e1) : Et g env (tCB (rAll g.K) (tCons (tLc wi (gName j) tYes te [j]) tNil)) P :=
  et_cb rcl_all (ea_cons (Ef.et (ef_mapY (fun d => .bl (f d)) fun c L σ H S R q => h c L σ H S R fun J ds e1 H1 ⟨h1, h2, h3⟩ => q J ds e1 H1 ⟨h1, h2, ea_nil ⟨ds.map f, by rw [List.map_map]; rfl, by rw [List.all_map]; exact h3⟩⟩)))
/-! ### pop -/
theorem Rvs.get {xs : List V} {ds : List Dt} {i : Nat} (r : Rvs so O H xs ds) (h : ds[i]? = some d) : ∃ x, xs[i]? = some x ∧ Rv so O H x d := by
  have hlt : i < xs.length := by rw [r.1]; exact (List.getElem?_eq_some_iff.mp h).1
  exact ⟨xs[i], by simp [hlt], r.2 i _ d (by simp [hlt]) h⟩
theorem Rvs.eraseIdx {xs : List V} {ds : List Dt} (r : Rvs so O H xs ds) (n : Nat) : Rvs so O H (xs.eraseIdx n) (ds.eraseIdx n) := by
  refine ⟨by simp [List.length_eraseIdx, r.1], fun i x d h1 h2 => ?_⟩
  rw [List.getElem?_eraseIdx] at h1 h2
  split at h1
  · rename_i hi
    rw [if_pos hi] at h2
    exact r.2 i x d h1 h2
  · rename_i hi
    rw [if_neg hi] at h2
    exact r.2 (i + 1) x d h1 h2
/-- found.pop(i), an own list -/
theorem et_popAt {i : Nat} {ds0 : List Dt} (h0 : env[i]? = some (Sl.own (.lst ds0))) (h : Et g env te fun n e => ∃ (k : Nat) (ds : List Dt) (d : Dt), n = .int (k : Int) ∧ e[i]? = some (Sl.own (.lst ds)) ∧ ds[k]? = some d ∧ P d (e.set i (.own (.lst (ds.eraseIdx k))))) :
    Et g env (tBM g.K "list" rPopAt (tVar i) (tCons te tNil)) P := fun c L σ H S Q q => by
  obtain ⟨p, h1, _, _, xs, h4, _⟩ := S.own i _ h0
  refine ⟨.ref p, h1, .inl ⟨rfl, xs, sq_of h4⟩, h c L σ H S _ fun x n e1 H1 ⟨k, ds, d, e0, hd, hk, pp⟩ S1 l1 k1 r1 => ?_⟩
  subst e0
  cases int_rv r1
  obtain ⟨p', w1, _, _, ys, w4, w5, w6, w7⟩ := S1.own i _ hd
  rw [h1] at w1
  cases w1
  have rs : Rvs c.so (Av c σ e1) H1 ys ds := ⟨w5, w7⟩
  obtain ⟨y, hy, ry⟩ := rs.get hk
  have hp : Av c σ e1 p := .inr ⟨i, _, hd, h1⟩
  have hlt : k < ys.length := (List.getElem?_eq_some_iff.mp hy).1
  have hz : ys.length ≤ Zz := by rw [w5]; exact w6
  have rs' : Rvs c.so (Av c σ e1) (upd H1 p (.lst (ys.eraseIdx k))) (ys.eraseIdx k) (ds.eraseIdx k) := (rs.eraseIdx k).keep (A := c.O) (Ko.mut hp)
  have S2 := S1.put (e := .lst (ds.eraseIdx k)) hd h1 ⟨ys.eraseIdx k, upd_same, rs'.1, by rw [List.length_eraseIdx]; split <;> omega, rs'.2⟩
  show rPopAt (.ref p) [.int (k : Int)] H1 Q
  refine ⟨p, ys, (k : Int), k, y, rfl, rfl, w4, by omega, by simp only [Zz] at hz; omega, ?_, hy, q y d _ _ pp S2 (fun j e he => ?_) (k1.trans (Ko.le (fw_put (e := .lst (ds.eraseIdx k)) hd h1).1 l1)) ((ry.keep (A := c.O) (Ko.mut hp)).mono fun a z => (av_put hd).mp z)⟩
  · exact (ixN_seq (ixN_nat hlt)).1
  · rcases Sl.get_set he with ⟨ej, _⟩ | ⟨_, z⟩
    · rw [ej]
      exact l1 i _ hd
    · exact l1 j e z
end
/-! ### an own list or dict looked at -/
section
variable {g : Gx} {c : Cc} {H H1 : Hp} {σ : L2.St} {env : List Sl} {te : TE} {tt : TT} {d : Dt} {i : Nat}
abbrev Gx.nl (g : Gx) : Gx := ⟨g.K, g.E, g.xe, false, g.T⟩
abbrev Cc.nl (c : Cc) : Cc := { c with lk := false }
theorem Lk.nl (L : Lk g c) (k : c.lk = true → c.lb = true) : Lk g.nl c.nl := ⟨rfl, fun C fs hx H' d xs hb h1 h2 h3 => L.2.1 C fs hx H' d xs ⟨hb.base, k, hb.sO, hb.dom, hb.stt⟩ h1 h2 h3, L.2.2⟩
theorem Sv.nl (S : Sv g.K c H σ env) : Sv g.nl.K c.nl H σ env := ⟨⟨S.base, fun z => Bool.noConfusion (show false = true from z), S.sO, S.dom, S.stt⟩, S.len, S.uniq, S.tree, S.own⟩
/-- own slots only looked at -/
@[reducible] def Sl.see : Sl → Sl
  | .own d => .v d
  | s => s
theorem see_no {i : Nat} {d : Dt} : (env.map Sl.see)[i]? ≠ some (Sl.own d) := fun z => by
  rw [List.getElem?_map] at z
  cases e : env[i]? with
  | none => rw [e] at z; cases z
  | some s => rw [e] at z; cases s <;> cases z
theorem see_av {a : Addr} (h : Av c σ (env.map Sl.see) a) : c.O a := by
  rcases h with h | ⟨i, d, h, _⟩
  · exact h
  · exact absurd h see_no
theorem Sv.see (S : Sv g.K c H σ env) : Sv g.K c H σ (env.map Sl.see) := by
  refine ⟨S.toHb, by rw [S.len, List.length_map], fun i j d e a z => absurd z see_no, fun i d z => ?_, fun i d z => absurd z see_no⟩
  rw [List.getElem?_map] at z
  cases e : env[i]? with
  | none => rw [e] at z; cases z
  | some s =>
    rw [e] at z
    cases s with
    | no => cases z
    | v t =>
      cases z
      obtain ⟨x, h1, h2⟩ := S.tree i _ e
      exact ⟨x, h1, h2.mono fun a z => .inl (see_av z)⟩
    | own t =>
      cases z
      obtain ⟨a, h1, h2, h3, h4⟩ := S.own i _ e
      exact ⟨_, h1, (h4.mono fun a z => .inl (see_av z)).rv fun z => h3 (see_av z)⟩
/-- back from a look -/
theorem Sv.seen (S : Sv g.K c H σ env) (b : Hb g.K c.nl H1) (k : Ko (Mv c.nl σ (env.map Sl.see)) (An c.nl σ (env.map Sl.see)) H H1) : Sv g.K c H1 σ env ∧ Ko (Mv c σ env) (An c σ env) H H1 := by
  have mv : ∀ a, Mv c.nl σ (env.map Sl.see) a → Chg c.so c.cc a := fun a z => z.elim id fun ⟨i, d, z, _⟩ => absurd z see_no
  have kk : Ko (Mv c σ env) (An c σ env) H H1 := k.mono (fun a z => .inl (mv a z)) fun a _ => .inl rfl
  refine ⟨⟨⟨b.base, S.lkb, b.sO, b.dom, b.stt⟩, S.len, S.uniq, fun j e z => ?_, fun j e z => ?_⟩, kk⟩
  · obtain ⟨x, h1, h2⟩ := S.tree j e z
    exact ⟨x, h1, S.kp h2 kk⟩
  · obtain ⟨y, z1, z2, z3, z4⟩ := S.own j e z
    exact ⟨y, z1, z2, z3, z4.keep (kk.mono (Mv.av S.sO) fun _ z => z) (k.same (fun q => z3 (S.sO y (mv y q)).1) (.inl rfl) z4.some)⟩
/-- own lists and dicts are but looked at within; the answer is flat -/
theorem et_peek {P : Dt → List Sl → Prop} (hp : Et g.nl (env.map Sl.see) te fun t e => scl t = true ∧ P t env) : Et g env te P := fun c L σ H S Q q =>
  hp c.nl (L.nl S.lkb) σ H (Sv.nl (Sv.see S)) Q fun x t e' H1 p S1 l1 k1 r1 => q x t env H1 p.2 (S.seen S1.toHb k1).1 Le.refl (S.seen S1.toHb k1).2 (r1.scal p.1)
theorem eb_peek {P : Bool → List Sl → Prop} (hp : Eb g.nl (env.map Sl.see) tt fun b e => P b env) : Eb g env tt P := fun c L σ H S Q q =>
  hp c.nl (L.nl S.lkb) σ H (Sv.nl (Sv.see S)) Q fun b e' H1 p S1 l1 k1 => q b env H1 p (S.seen S1.toHb k1).1 Le.refl (S.seen S1.toHb k1).2
end
/-! ### a Bool that is known, or not -/
section
variable {A B : Prop} {b : Bool}
theorem bt (hb : b = true) (h : A) : isB (.bl b) fun b => if b = true then A else B := by rw [isB_bl]; subst hb; exact h
theorem bf (hb : b = false) (h : B) : isB (.bl b) fun b => if b = true then A else B := by rw [isB_bl]; subst hb; exact h
theorem b2 (h1 : b = true → A) (h2 : b = false → B) : isB (.bl b) fun b => if b = true then A else B := by
  rw [isB_bl]
  cases b with
  | true => exact h1 rfl
  | false => exact h2 rfl
theorem v2 (h1 : b = false → A) (h2 : b = true → B) : isB (.bl (!b)) fun b => if b = true then A else B := by
  rw [isB_bl]
  cases b with
  | true => exact h2 rfl
  | false => exact h1 rfl
theorem nt (hb : b = true) (h : B) : isB (.bl b) fun b => if (!b) = true then A else B := by rw [isB_bl]; subst hb; exact h
theorem nf (hb : b = false) (h : A) : isB (.bl b) fun b => if (!b) = true then A else B := by rw [isB_bl]; subst hb; exact h
theorem n2 (h1 : b = false → A) (h2 : b = true → B) : isB (.bl b) fun b => if (!b) = true then A else B := by
  rw [isB_bl]
  cases b with
  | true => exact h2 rfl
  | false => exact h1 rfl
end
/-! ### promises -/
theorem nolk {b : Bool} : lkle false b := fun z => nomatch z
theorem samelk {b : Bool} : lkle b b := id
/-- of one tree -/
abbrev R1 (pre : Dt → Prop) (f : Dt → Dt) : Rd3 := fun ds P _ => ∃ d, ds = [d] ∧ pre d ∧ P (f d)
abbrev R2f (pre : Dt → Dt → Prop) (f : Dt → Dt → Dt) : Rd3 := fun ds P _ => ∃ d e, ds = [d, e] ∧ pre d e ∧ P (f d e)
abbrev R3f (pre : Dt → Dt → Dt → Prop) (f : Dt → Dt → Dt → Dt) : Rd3 := fun ds P _ => ∃ d e u, ds = [d, e, u] ∧ pre d e u ∧ P (f d e u)
theorem w_len {K : PySem.W.Frag} {R : Rd3} {lk : Bool} {vs : List V} {H : Hp} {Q : VK} {E : XK} (n : Nat) (h : spW K lk R vs H Q E) (hR : ∀ ds P xe, R ds P xe → ds.length = n) : vs.length = n := by
  obtain ⟨so, cc, O, ds, P, xe, hb, rs, hr, _⟩ := h
  rw [rs.1]
  exact hR _ _ _ hr
end Wv
/-! Facts in the form in which steps meet them. -/
namespace Wv
open PySem PySem.Spec PyProof.Rows L2 Evl
/-- what stands in a list or a tuple -/
def itL : Dt → Option (List Dt)
  | .lst ds => some ds
  | .tup ds => some ds
  | _ => none
theorem at0 (x : Dt) (xs : List Dt) : atI (x :: xs) 0 = some x := by
  unfold atI
  rw [show ixN (x :: xs).length 0 = some 0 from ixN_nat (j := 0) (by simp)]
  rfl
theorem at1 (x y : Dt) (xs : List Dt) : atI (x :: y :: xs) 1 = some y := by
  unfold atI
  rw [show ixN (x :: y :: xs).length 1 = some 1 from ixN_nat (j := 1) (by simp)]
  rfl
theorem at2 (x y z : Dt) (xs : List Dt) : atI (x :: y :: z :: xs) 2 = some z := by
  unfold atI
  rw [show ixN (x :: y :: z :: xs).length 2 = some 2 from ixN_nat (j := 2) (by simp)]
  rfl
theorem atN {xs : List Dt} {i : Nat} {x : Dt} (h : xs[i]? = some x) : atI xs (i : Int) = some x := by
  unfold atI
  rw [ixN_nat (List.getElem?_eq_some_iff.mp h).1]
  exact h
theorem itL_isS {d : Dt} {xs : List Dt} (h : itL d = some xs) : isS d = false ∧ isL d = true ∧ (tyD d).isSome = true := by
  cases d with
  | lst ys => exact ⟨rfl, rfl, rfl⟩
  | tup ys => exact ⟨rfl, rfl, rfl⟩
  | _ => cases h
theorem itL_ix {d : Dt} {xs : List Dt} (h : itL d = some xs) (i : Int) (k : Dt → Prop) : fIx d (.int i) k = ∃ t, atI xs i = some t ∧ k t := by
  cases d with
  | lst ys => cases h; rfl
  | tup ys => cases h; rfl
  | _ => cases h
theorem itL_len {d : Dt} {xs : List Dt} (h : itL d = some xs) (k : Dt → Prop) : fLen [d] k = k (.int xs.length) := by
  cases d with
  | lst ys => cases h; rfl
  | tup ys => cases h; rfl
  | _ => cases h
theorem itL_it {d : Dt} {xs : List Dt} (h : itL d = some xs) (k : List Dt → Prop) : itS d k = k xs := by
  cases d with
  | lst ys => cases h; rfl
  | tup ys => cases h; rfl
  | _ => cases h
theorem isL_it {d : Dt} (h : isL d = true) : ∃ xs, itL d = some xs := by
  cases d with
  | lst ys => exact ⟨ys, rfl⟩
  | tup ys => exact ⟨ys, rfl⟩
  | _ => cases h
theorem isL_no {d : Dt} (h : isL d = false) : itL d = none := by
  cases d with
  | lst ys => cases h
  | tup ys => cases h
  | _ => rfl
section
variable {d x y z : Dt} {xs : List Dt} {k : Dt → Prop} {kl : List Dt → Prop}
theorem fx0 (h : itL d = some (x :: xs)) (p : k x) : fIx d (.int 0) k := by rw [itL_ix h]; exact ⟨x, at0 _ _, p⟩
theorem fx1 (h : itL d = some (x :: y :: xs)) (p : k y) : fIx d (.int 1) k := by rw [itL_ix h]; exact ⟨y, at1 _ _ _, p⟩
theorem fx2 (h : itL d = some (x :: y :: z :: xs)) (p : k z) : fIx d (.int 2) k := by rw [itL_ix h]; exact ⟨z, at2 _ _ _ _, p⟩
theorem fxN {i : Nat} (h : itL d = some xs) (hi : xs[i]? = some x) (p : k x) : fIx d (.int (i : Int)) k := by rw [itL_ix h]; exact ⟨x, atN hi, p⟩
theorem fxlen (h : itL d = some xs) (p : k (.int xs.length)) : fLen [d] k := by rw [itL_len h]; exact p
theorem fxit (h : itL d = some xs) (p : kl xs) : itS d kl := by rw [itL_it h]; exact p
theorem r1_i {pre : Dt → Prop} {f : Dt → Dt} {xe : Addr → List (Str × Dt) → Prop} (h : pre d) (p : k (f d)) : R1 pre f [d] k xe := ⟨d, rfl, h, p⟩
theorem isTyI {A : Prop} (h : (tyD d).isSome = true) (p : A) : (tyD d).isSome = true ∧ A := ⟨h, p⟩
theorem lenI {n : Nat} {A : Prop} (h : Nat.ble n Zz = true) (p : A) : n ≤ Zz ∧ A := ⟨Nat.le_of_ble_eq_true h, p⟩
theorem nown_v {env : List Sl} {j : Nat} {e : Dt} (h : env[j]? = some (Sl.v e)) : nOwn env j := nown_of h fun _ z => nomatch z
theorem nown_no {env : List Sl} {j : Nat} (h : env[j]? = some Sl.no) : nOwn env j := nown_of h fun _ z => nomatch z
theorem feq_i {i j : Int} (p : k (.bl (decide (i = j)))) : fEq (.int i) (.int j) k := p
theorem feq_s {a b : Str} (p : k (.bl (decide (a = b)))) : fEq (.str a) (.str b) k := p
theorem fne_i {i j : Int} (p : k (.bl (!decide (i = j)))) : fNe (.int i) (.int j) k := p
theorem fne_s {a b : Str} (p : k (.bl (!decide (a = b)))) : fNe (.str a) (.str b) k := p
end
end Wv
/-! Raising an own exception of one field. -/
namespace L2
open PySem PySem.Spec PyProof.Rows
section
variable {X : Cx} {C fI : Addr} {y x : Str} {K : PySem.W.Frag}
theorem _root_.L2.ExcC.ra {P : Program} (h : ExcC K C) (T : Sx.XTxt K P y C fI) : ∀ X : Cx, X.K = K → Raises X (.ref C) := fun X hK => by
  subst hK
  refine raises_own h.hs ?_
  obtain ⟨nm, q, N, bs, bm, sn, sub, ab, col, dd, k0, k1, k2, k3, k5, hC, _⟩ := T.cls
  show (List.lookup C X.K).map (fun x => x.cls) = _
  rw [hC]
  rfl
/-- C(a), raised: its dict stands, the exception itself is let go -/
def tMkR (C : Addr) (y : Str) (ta : TA) : St → Hp → XK → Prop := fun σ H Q => ta σ H fun vs H1 => ∃ v, vs = [v] ∧ ∀ d, H1 d = none → Q (.ref C) (some d) (upd H1 d (.xd [(y, v)]))
theorem pmk_sx {a : Expr} {ta : TA} {p pos : Pos} {k : Nat} (T : Sx.XTxt X.K X.prog y C fI) (hr : Room (k + 1) X.A) (hm : X.mg x = some (.ref C)) (rs : ∀ X : Cx, X.K = K → Raises X (.ref C)) (ha : PA X [a] ta) (hg : Gl X x := by rfl) (hK : X.K = K := by rfl)
    (he : starEach (a :: []) X.env = (false, eval a X.env) :: starEach [] X.env := by rfl) (hpl : (backTo pos (starEach [] X.env)).any (·.1) = false := by rfl) (hdb : (x == ("__debug__" : Str)) = false := by decide) :
    PMk X (.Call (.Name x p) [a] [] pos) (tMkR C y ta) := by
  intro pins s σ H Q I h
  refine wpAny_Call_Name_kw (ld_glob I hg hm ?_ hdb)
  refine PySem.W.callWith_K (h₀ := X.base) I.ok.mod.kin T.kC (thn (ha.run pos pins s σ H _ I h) fun us s1 hh => ?_) he hpl
  obtain ⟨vs, H1, I1, r1, v, ev, q1⟩ := hh
  subst ev
  refine ⟨I1.kIn, ?_⟩
  cases r1 with
  | cons rv rn =>
    rename_i v' us'
    cases rn
    show wpAny _ _ (call (.ref C) [v']) _ _ _
    have hlim := I1.nolimit
    obtain ⟨mb, h1, h2⟩ := I1.mod.blt
    have G := I1.mod.glob.keeps I1.bk
    have B := h1.keeps I1.bk
    have KI := I1.kIn
    have bare := I1.bare
    obtain ⟨hp, g, dr, tk, os⟩ := s1
    refine wpAny_call (Sx.sx_made T KI G ⟨mb, B, h2⟩ hlim (by have := hr.dp; omega) fun h' tk' e d M => ?_)
    obtain ⟨t1, hoe⟩ := M.obj
    obtain ⟨G', g1, g2⟩ := restrict h' fun b => decide (b ≠ e)
    have gk : ∀ b, b ≠ e → G'.get? b = h'.get? b := fun b hb => g1 b (decide_eq_true hb)
    have ge : G'.get? e = none := g2 e (by simp)
    have old : ∀ b o, hp.get? b = some o → G'.get? b = some o := fun b o q => (gk b (Nat.ne_of_lt (Nat.lt_of_lt_of_le (Heap.lt_size q) M.new))).trans (M.keep b o q)
    have ob : ObjOk X.prog X.w (upd H1 d (.xd [(y, v)])) G' d (.xd [(y, v)]) := ⟨_, M.ns.at (fun o q => (gk d M.dne).trans q), fun f => relO_y rv f⟩
    have J : Inv X pins σ (upd H1 d (.xd [(y, v)])) ⟨G', g, dr, tk', os⟩ := I1.laid (t' := tk') old M.dbig ob
    have hd := I1.hok.fresh M.dbig
    have hen := I1.hok.fresh M.new
    have hn : (upd H1 d (.xd [(y, v)])) e = none := by rw [upd_ne (Ne.symm M.dne)]; exact hen
    refine ⟨e, _, _, ⟨G', g, dr, tk', os⟩, _, .ref C, some d, rfl, J, fun b o q => ?_, ge, hoe, ⟨rfl, rfl⟩, rfl, rfl, hn, rfl, bare, rs X hK, q1 d hd⟩
    exact (gk b (fun z => by rw [z] at q; have q' : G'.get? e = some o := q; rw [ge] at q'; cases q')).symm.trans q
def tRaise (t : St → Hp → XK → Prop) (E : XK) : TS := fun _ σ H => t σ H fun cls d H' => E cls d H'
theorem ps_raiseW {E : XK} {e : Expr} {t : St → Hp → XK → Prop} {pos : Pos} (hc : X.calm = true) (tk : Takes X (fun cls d _ H => E cls d H)) (he : PMk X e t) : PS X (.Raise (some e) none pos) (tRaise t E) := ps_raise hc tk he
end
end L2
namespace Wv
open PySem PySem.Spec PyProof.Rows L2 Evl
section
variable {g : Gx} {c : Cc} {H H1 H2 H' : Hp} {σ : L2.St} {env e1 : List Sl} {E : De}
theorem raise_ok {C : Addr} {y : Str} {x : V} {d : Dt} {p : Addr} (L : Lk g c) (S : Hb g.K c H1) (hx : g.xe C [(y, d)]) (r : Rv c.so c.O H1 x d) (hp : H1 p = none) : g.E (.ref C) (some p) (upd H1 p (.xd [(y, x)])) := by
  refine L.2.1 C _ hx _ p [(y, x)] ⟨S.base.trans (Ko.new hp), S.lkb, S.sO, fun a z => upd_some (S.dom a z), S.stt.ex (Ex.new hp)⟩ upd_same rfl fun i k x' k' t e1 e2 => ?_
  cases i with
  | zero => cases e1; cases e2; exact r.ex (Ex.new hp)
  | succ i => cases e1
theorem wd_raise {C : Addr} {y : Str} {ta : TA} (h : Ea g env ta fun ds _ => ∃ d, ds = [d] ∧ g.xe C [(y, d)]) : Wd g env (tRaise (tMkR C y ta) g.E) E := fun c L σ H S D _ _ _ _ =>
  h c L σ H S _ fun xs ds e1 H1 ⟨d, e0, hx⟩ S1 _ _ r1 => by
    subst e0
    obtain ⟨hl, hr⟩ := r1
    match xs, hl with
    | [x], _ => exact ⟨x, rfl, fun p hp => raise_ok L S1.toHb hx ((hr 0 x d rfl rfl).mono fun a z => .inl z) hp⟩
end
end Wv
/-! remove of a text, items of own lists and dicts, dict comprehensions. -/
namespace L2
open PySem PySem.Spec PyProof.Rows
def eqz (k : Str) (v : Value) : Bool := match v with
  | .str n _ => n.cps.toList == k.cps.toList
  | _ => false
section
variable {X : Cx}
def rRemZ : V → List V → Hp → VK → Prop := fun x xs H Q => ∃ (l : Addr) (ns : List Str) (k : Str) (j : Nat), x = .ref l ∧ xs = [.str k] ∧ H l = some (.lst (ns.map V.str)) ∧ ns[j]? = some k ∧ (∀ m : Nat, m < j → ns[m]? ≠ some k) ∧ Q .non (upd H l (.lst ((ns.eraseIdx j).map V.str)))
theorem erase_mapG {α β : Type} (f : α → β) : ∀ (l : List α) (j : Nat), (l.map f).eraseIdx j = (l.eraseIdx j).map f
  | [], j => by simp
  | a :: r, 0 => by simp
  | a :: r, j + 1 => by
    have ih := erase_mapG f r j
    simp [ih]
theorem mt_removeF : MtM X "list.remove" rRemZ := by
  intro pins s σ H x xs v us Q I rx rxs h
  obtain ⟨l, ns, k, j, rfl, rfl, hH, hj, hno, q⟩ := h
  cases rx
  obtain ⟨u, rfl, ru⟩ := rxs.one
  obtain ⟨t, rfl⟩ := ru
  obtain ⟨z, its, n, r, hl, e⟩ := I.lstM hH
  rw [List.length_map] at hl z
  have at_ : ∀ (i : Nat) (q : Str), ns[i]? = some q → ∃ t, its[i]? = some (.str q t) := fun i q hi => by
    obtain ⟨u, h1, t, h2⟩ := r.get (i := i) (x := .str q) (by rw [List.getElem?_map, hi]; rfl)
    exact ⟨t, by rw [h1, h2]⟩
  have hjn : j < ns.length := (List.getElem?_eq_some_iff.mp hj).1
  have hjl : j < its.toArray.size := by rw [List.size_toArray]; omega
  refine call_meets PySem.F.slot_list_remove ⟨_, e, rfl⟩ PySem.F.entry_list_remove (PySem.F.args_list_remove_2 _ _)
    (MeetsSeq.list_remove l its.toArray n (.str k t) (eqz k) (fun y hy => ?_) j hjl ?_ ?_ (by rw [List.size_toArray]; omega)) ⟨e, ?_⟩
  · obtain ⟨i, hi⟩ := List.mem_iff_getElem?.mp (show y ∈ its by simpa using hy)
    have hin : i < ns.length := by have := (List.getElem?_eq_some_iff.mp hi).1; omega
    obtain ⟨t', e'⟩ := at_ i _ (List.getElem?_eq_getElem hin)
    rw [hi] at e'
    cases e'
    exact SeqRoads2.EqGives.str ns[i] k t' t
  · obtain ⟨tj, hjt⟩ := at_ j k hj
    obtain ⟨h1, h2⟩ := List.getElem?_eq_some_iff.mp hjt
    have e1 : its.toArray[j] = .str k tj := by simpa using h2
    rw [e1]
    exact beq_self_eq_true k.cps.toList
  · intro m hm hmj
    have hmn : m < ns.length := by omega
    obtain ⟨tm, hmt⟩ := at_ m _ (List.getElem?_eq_getElem hmn)
    obtain ⟨h1, h2⟩ := List.getElem?_eq_some_iff.mp hmt
    have e1 : its.toArray[m] = .str ns[m] tm := by simpa using h2
    rw [e1]
    refine beq_eq_false_iff_ne.mpr fun e2 => hno m hmj ?_
    have e3 : ns[m] = k := by
      cases hq : ns[m] with
      | mk c1 =>
        cases k with
        | mk c2 =>
          rw [hq] at e2
          have e2 : c1.toList = c2.toList := e2
          rw [Array.toList_inj.mp e2]
    rw [List.getElem?_eq_getElem hmn, e3]
  · have rr := r.eraseIdx j
    rw [erase_mapG] at rr
    refine ⟨.non, _, I.lset (its' := its.eraseIdx j) (t' := s.toks) hH e ?_ rr ?_, rfl, q⟩
    · show its.toArray.eraseIdxIfInBounds j = (its.eraseIdx j).toArray
      rw [List.eraseIdxIfInBounds_toArray]
    · rw [List.length_map, List.length_eraseIdx]
      split <;> omega
end
end L2
namespace L2
open PySem PySem.Spec PyProof.Rows
section
variable {X : Cx} {wi : TI} {g : TG} {tt : TT} {tk tv : TE} {kx vx tg iter : Expr} {ifs : List Expr} {scope : Scope} {own : List (Str × Nat)} {pos spos py : Pos} {y : Str}
theorem sw_dc {gs : List Comprehension} {l : Nat} {env : Env} (hk : env.scope.kind = .function) (hy : env.scope.names.lookup y = some .local) (hl : (py.line == pos.line) = true) (ha : (scope.names.any fun (n, k) => n == y && (k == .local || k == .cell)) = false) :
    swapsWith (.DictComp kx vx gs scope pos) (some (.Name y py)) l env = pure true := by
  have hb : env.blockKind = .function := by
    unfold Env.blockKind
    rw [hk]
    rfl
  have ky : env.kindOf y = some .local := hy
  unfold swapsWith
  simp only [hb, ky, ha, Expr.pos, hl]
  rfl
theorem pg_tupK {K : PySem.W.Frag} {es : List Expr} {k n : Nat} {t : TGs} (hc : X.calm = true) (h : PGs X es t) (hK : X.K = K := by rfl) (hn : (assignEach es X.env).length = n := by rfl) (hst : (assignEach es X.env).findIdx? (·.1) = none := by rfl) :
    PG X (.Tuple es k pos) (gTup K n t) := by
  subst hK
  exact pg_tup hc h hn hst
theorem pi_anyK {K : PySem.W.Frag} {l : Expr} {tl : TE} (hl : PE X l tl) (hK : X.K = K := by rfl) : PI X tg l (iAny K tl) := by
  subst hK
  exact pi_any hl
/-- name = {k: v for ..} on one line, the name a local -/
theorem ps_setDc {i : Nat} (hc : X.calm = true) (hN : X.N.Nodup) (hy : X.N[i]? = some y) (hyl : X.env.scope.names.lookup y = some .local) (hsw : swapsWith (.DictComp kx vx [⟨tg, iter, ifs, 0⟩] scope pos) (some (.Name y py)) spos.line X.env = pure true)
    (hi : PI X tg iter wi) (ok : BlkOk X.N X.env.scope scope own) (hg : ∀ (s : Shared) (H : Hp) (C : Addr) (cl : List (Str × Addr)) (fp : List Addr), PG (X.blk s H scope (compEnvC scope cl C X.env) fp) tg g)
    (ht : ∀ (s : Shared) (H : Hp) (C : Addr) (cl : List (Str × Addr)) (fp : List Addr), PTs (X.blk s H scope (compEnvC scope cl C X.env) fp) ifs tt) (hk : ∀ (s : Shared) (H : Hp) (C : Addr) (cl : List (Str × Addr)) (fp : List Addr), PE (X.blk s H scope (compEnvC scope cl C X.env) fp) kx tk)
    (he : ∀ (s : Shared) (H : Hp) (C : Addr) (cl : List (Str × Addr)) (fp : List Addr), PE (X.blk s H scope (compEnvC scope cl C X.env) fp) vx tv) (hs : ∀ x, foldedSetIterable iter X.env x = pure x := by intro _; rfl) :
    PS X (.Assign [.Name y py] (.DictComp kx vx [⟨tg, iter, ifs, 0⟩] scope pos) spos) (tAsg (tDc wi g tt tk tv (own.map (·.2))) (gName i)) := by
  refine ⟨fun pins s σ H D I h => ?_⟩
  rw [exec_Assign_Name_used _ _ _ _ hsw]
  refine wpAny_bind (wpAny_standAt (wpAny_bind ?_))
  show wpAny _ X.A (do
    let _ ← comprehension (.DictComp kx vx [⟨tg, iter, ifs, 0⟩] scope pos) scope X.env (firstIterPos [⟨tg, iter, ifs, 0⟩] pos) newDict false (eval iter X.env) (some (assign (.Name y py) X.env))) _ _ s
  have h : tDc wi g tt tk tv (own.map (·.2)) σ H (fun x H1 => gName i x σ H1 D.nx) := h
  refine wpAny_bind (thn (dc_core (Qf := fun _ s' => SP X pins D .next s') hc hN I hi ok hg ht hk he hs h fun L C s' m H' I' q hn f => ?_) fun _ s' hq => wpAny_pure (wpAny_pure hq))
  show wpAny _ _ (assign (.Name y py) X.env (.ref L)) _ _ _
  refine wpAny_assign_Name (store_ok2 (v := V.ref L) I' hN hy (.inl hyl) rfl (fun s2 I2 ⟨a, sb, ha⟩ => ?_) (.inr hyl))
  obtain ⟨f0, f1, f2, f3, f4, f5⟩ := f
  have haC : C ≠ a := by
    rcases ha with z | z
    · rw [z]
      exact f1
    · exact fun e => f4 y a z e.symm
  refine ⟨m, hn.sameBut sb haC, fun h3 sb3 => ?_⟩
  exact ⟨_, H', I2.turned (t' := s2.toks) (fun b o hb e => (sb3.2 b hb).trans e) f0 f1 f3 f4 f5, q⟩
end
end L2
namespace Wv
open PySem PySem.Spec PyProof.Rows L2 Evl
section
variable {g : Gx} {c : Cc} {H H1 H2 H' : Hp} {σ : L2.St} {env e1 : List Sl} {ta tb te tk tv : TE} {tt : TT} {P : Dt → List Sl → Prop} {E : De} {x : V} {d : Dt} {so : Option Addr} {O : Addr → Prop}
/-- found[k], an own list or dict: its item -/
theorem et_ixO {i : Nat} {d0 : Dt} (h0 : env[i]? = some (Sl.own d0)) (h : Et g env tb fun e e2 => ∃ d, e2[i]? = some (Sl.own d) ∧ fIx d e fun t => P t e2) : Et g env (tOp (rIxA g.K) (tVar i) tb) P := fun c L σ H S Q q => by
  obtain ⟨a, h1, _⟩ := S.own i d0 h0
  refine ⟨.ref a, h1, h c L σ H S _ fun y e env2 H2 ⟨d, hd, p2⟩ S2 l2 k2 r2 => ?_⟩
  obtain ⟨a', h1', _, _, o⟩ := S2.own i d hd
  rw [h1] at h1'
  cases h1'
  cases d with
  | lst ds =>
    obtain ⟨xs, z1, z2, z3, z4⟩ := o
    cases e with
    | int n =>
      obtain ⟨t, ht, p⟩ := p2
      cases int_rv r2
      obtain ⟨v, w1, w2⟩ := at_rvs (show Rvs c.so (Av c σ env2) H2 xs ds from ⟨z2, z4⟩) ht
      exact .inl (.inl ⟨a, xs, n, v, rfl, rfl, .inl (.inl z1), w1, q v t env2 H2 p S2 l2 k2 w2⟩)
    | _ => exact p2.elim
  | dct kvs =>
    obtain ⟨xs, z1, z2, z3, z4⟩ := o
    have go : ∀ (k : Key) t, y = kV k → dlk kvs k = some t → P t env2 → rIxA g.K (.ref a) y H2 Q := fun k t e1 h p => by
      have tv := (show Tb c.so (Av c σ env2) H2 xs kvs from ⟨z2, z4⟩).val (k := k)
      rw [h] at tv
      obtain ⟨v, w1, w2⟩ := tv
      exact .inr ⟨a, v, rfl, .inl ⟨xs, k, .inl z1, e1, w1.symm⟩, q v t env2 H2 p S2 l2 k2 w2⟩
    cases e with
    | str z =>
      obtain ⟨t, h, p⟩ := p2
      exact go (.inr z) t (str_rv r2).1 h p
    | int i =>
      obtain ⟨t, h, p⟩ := p2
      exact go (.inl i) t (int_rv r2) h p
    | _ => exact p2.elim
  | dtn hs ds => exact (show False from p2).elim
  | _ => exact o.elim
theorem et_opRo {r : R2} {f : Dt → Dt → (Dt → Prop) → Prop} {i : Nat} {d0 : Dt} (hr : Rop g.K r f) (h0 : env[i]? = some (Sl.own d0)) (h : Et g env ta fun e e2 => ∃ d, e2[i]? = some (Sl.own d) ∧ f e d fun t => scl t = true ∧ P t e2) : Et g env (tOp r ta (tVar i)) P := et_opR hr h
theorem sclI {d : Dt} {A : Prop} (h : scl d = true) (p : A) : scl d = true ∧ A := ⟨h, p⟩
theorem Cq.wr_dct {D : Addr} {acc : List (Key × Dt)} {xs : List (Key × V)} {k : Key} {t : Dt} (q : Cq g c σ e1 H1 D (.dct acc) H') (S1 : Sv g.K c H1 σ e1) (hD : H1 D = none) (hx : H' D = some (.dK xs)) (hz : acc.length < Zz) (r : Rv c.so (Av (c.add D) σ e1) H' x t) :
    Cq g c σ e1 H1 D (.dct (dpt acc k t)) (upd H' D (.dK (putK xs k x))) := by
  obtain ⟨xs', z1, z2, z3, z4⟩ := q.ol
  rw [hx] at z1
  cases z1
  have kD : Ko (Av (c.add D) σ e1) c.O H' (upd H' D (.dK (putK xs k x))) := Ko.mut (.inl (.inr rfl))
  have tb := ((show Tb c.so (Av (c.add D) σ e1) H' xs acc from ⟨z2, z4⟩).put (k := k) r).keep kD
  exact q.write S1 hD ⟨_, upd_same, tb.1, Nat.le_trans (dpt_len _ _ _) hz, tb.2⟩
/-- {k: v for x in .. if ..} -/
theorem ef_dc {wi : TI} {j : Nat} (h : Ei g env wi fun ds e1 => nOwn e1 j ∧ ∃ I : Nat → List (Key × Dt) → Prop, I 0 [] ∧ (∀ i d acc, ds[i]? = some d → I i acc → Eb g (e1.set j (.v d)) tt fun b e2 => e2 = e1.set j (.v d) ∧
    if b = true then Et g (e1.set j (.v d)) tk fun k e3 => e3 = e1.set j (.v d) ∧ kD k fun kk => Et g (e1.set j (.v d)) tv fun t e4 => e4 = e1.set j (.v d) ∧ I (i + 1) (dpt acc kk t) else I (i + 1) acc) ∧ ∀ acc, I ds.length acc → P (.dct acc) e1) : Ef g env (tDc wi (gName j) tt tk tv [j]) P := fun c L σ H S Q q => by
  refine h c L σ H S _ fun J ds e1 H1 ⟨hj, I, i0, hs, hd⟩ S1 l1 k1 w D hD => ?_
  refine ⟨fun i m H' => m = ds.length - i ∧ i ≤ ds.length ∧ ∃ acc, acc.length ≤ i ∧ I i acc ∧ Cq g c σ e1 H1 D (.dct acc) H',
    ⟨_, rfl, Nat.zero_le _, [], Nat.le_refl _, i0, Cq.start S1 hD ⟨[], upd_same, rfl, Nat.zero_le _, fun i k x k' d z => by simp at z⟩⟩, ?_⟩
  rintro i m H' ⟨rfl, hi, acc, hal, hI, C'⟩
  have ka := C'.kf.mono (A' := Av c σ e1) (Mv.av S1.sO) fun _ z => .inr z
  by_cases hlt : i < ds.length
  · refine .inr ⟨w.go i H' hlt ka, fun H2 => ∃ acc, acc.length ≤ i + 1 ∧ I (i + 1) acc ∧ Cq g c σ e1 H1 D (.dct acc) H2, fun H2 z => ⟨ds.length - (i + 1), by omega, rfl, hlt, z⟩, fun x H'' y => ?_⟩
    obtain ⟨e, d, ed, rd⟩ := w.yld (Av (c.add D) σ e1) i H' x H'' hlt ka (fun a z => by
      rcases Av.add.mp z with z | z
      · exact .inl z
      · exact .inr (by rw [z]; exact hD)) C'.sv.lk_av y
    obtain ⟨C2, Sb⟩ := C'.into (j := j) e rd
    show wipe ((wipe σ [j]).set j (some x)) [j] = wipe σ [j] ∧ tt ((wipe σ [j]).set j (some x)) H'' _
    refine ⟨wipe_back1, ?_⟩
    rw [wipe_set1]
    refine hs i d acc ed hI (c.add D) (L.add S1.sO) (σ.set j (some x)) H'' Sb _ fun b e2 H3 ⟨e0, pb⟩ S3 l3 k3 => ?_
    subst e0
    have C3 := C2.step S1 hD hj Sb S3 k3
    cases b with
    | false => exact ⟨acc, Nat.le_succ_of_le hal, pb, C3⟩
    | true =>
      refine pb (c.add D) (L.add S1.sO) (σ.set j (some x)) H3 S3 _ fun yk kd e3 H4 ⟨e0, pk⟩ S4 l4 k4 r4 => ?_
      subst e0
      have C4 := C3.step S1 hD hj S3 S4 k4
      obtain ⟨kk, rfl, pk⟩ := kD_rv r4 pk
      refine pk (c.add D) (L.add S1.sO) (σ.set j (some x)) H4 S4 _ fun y t e4 H5 ⟨e0, pt⟩ S5 l5 k5 r5 => ?_
      subst e0
      have C5 := C4.step S1 hD hj S4 S5 k5
      obtain ⟨xs, z1, z2, z3, z4⟩ := C5.ol
      have hl := w.len
      have hxl : xs.length = acc.length := by simpa using congrArg List.length z2
      exact ⟨xs, kk, rfl, z1, Nat.lt_of_lt_of_le (show xs.length < Zz by omega) (by decide), dpt acc kk t, Nat.le_trans (dpt_len _ _ _) (by omega), pt, C5.wr_dct S1 hD z1 (by omega) (Cq.out hj r5)⟩
  · have : i = ds.length := by omega
    subst this
    exact .inl ⟨w.stop H' ka, q D (.dct acc) e1 H' (hd acc hI) C'.sv l1 (k1.trans (C'.kf.le l1)) (k1.back hD) C'.ol⟩
/-- found.remove(z): texts in an own list -/
theorem et_remove {i : Nat} {ds0 : List Dt} (h0 : env[i]? = some (Sl.own (.lst ds0))) (h : Et g env te fun n e => ∃ (ns : List Str) (k : Str) (j : Nat), n = .str k ∧ e[i]? = some (Sl.own (.lst (ns.map Dt.str))) ∧ ns[j]? = some k ∧ (∀ m : Nat, m < j → ns[m]? ≠ some k) ∧ P .non (e.set i (.own (.lst ((ns.eraseIdx j).map Dt.str))))) :
    Et g env (tBM g.K "list" rRemZ (tVar i) (tCons te tNil)) P := fun c L σ H S Q q => by
  obtain ⟨p, h1, _, _, xs, h4, _⟩ := S.own i _ h0
  refine ⟨.ref p, h1, .inl ⟨rfl, xs, sq_of h4⟩, h c L σ H S _ fun x n e1 H1 ⟨ns, k, j, e0, hd, hk, hno, pp⟩ S1 l1 k1 r1 => ?_⟩
  subst e0
  cases (str_rv r1).1
  obtain ⟨p', w1, _, _, ys, w4, w5, w6, w7⟩ := S1.own i _ hd
  rw [h1] at w1
  cases w1
  have rs : Rvs c.so (Av c σ e1) H1 ys (ns.map Dt.str) := ⟨w5, w7⟩
  have ey : ys = ns.map V.str := by
    refine List.ext_getElem? fun n => ?_
    cases hn : ns[n]? with
    | none =>
      have : ns.length ≤ n := List.getElem?_eq_none_iff.mp hn
      rw [List.getElem?_map, hn]
      exact List.getElem?_eq_none_iff.mpr (by rw [w5, List.length_map]; exact this)
    | some z =>
      obtain ⟨y, hy, ry⟩ := rs.get (i := n) (d := .str z) (by rw [List.getElem?_map, hn]; rfl)
      rw [hy, List.getElem?_map, hn, (str_rv ry).1]
      rfl
  subst ey
  have hp : Av c σ e1 p := .inr ⟨i, _, hd, h1⟩
  have rs' : Rvs c.so (Av c σ e1) (upd H1 p (.lst ((ns.eraseIdx j).map V.str))) ((ns.eraseIdx j).map V.str) ((ns.eraseIdx j).map Dt.str) := by
    have := (rs.eraseIdx j).keep (A := c.O) (Ko.mut (o := .lst ((ns.eraseIdx j).map V.str)) hp)
    rw [erase_mapG, erase_mapG] at this
    exact this
  have S2 := S1.put (e := .lst ((ns.eraseIdx j).map Dt.str)) hd h1 ⟨_, upd_same, rs'.1, by rw [List.length_map, List.length_eraseIdx]; rw [List.length_map] at w6; split <;> omega, rs'.2⟩
  refine ⟨p, ns, k, j, rfl, rfl, w4, hk, hno, q _ _ _ _ pp S2 (fun j e he => ?_) (k1.trans (Ko.le (fw_put (e := .lst ((ns.eraseIdx j).map Dt.str)) hd h1).1 l1)) .non⟩
  rcases Sl.get_set he with ⟨ej, _⟩ | ⟨_, z⟩
  · rw [ej]
    exact l1 i _ hd
  · exact l1 j e z
end
/-! ### tables -/
theorem dlk_mem {kvs : List (Key × Dt)} {k : Key} {t : Dt} (h : dlk kvs k = some t) : (k, t) ∈ kvs := by
  unfold dlk at h
  cases e : kvs.find? fun kv => decide (kv.1 = k) with
  | none => rw [e] at h; cases h
  | some q =>
    rw [e] at h
    cases h
    have h1 := List.mem_of_find?_eq_some e
    have h2 := List.find?_some e
    rw [← of_decide_eq_true h2]
    exact h1
theorem dlk_some {kvs : List (Key × Dt)} {q : Key × Dt} (h : q ∈ kvs) : ∃ t, dlk kvs q.1 = some t := by
  unfold dlk
  cases e : kvs.find? fun kv => decide (kv.1 = q.1) with
  | none => exact absurd (decide_eq_true rfl) (List.find?_eq_none.mp e q h)
  | some p => exact ⟨p.2, rfl⟩
theorem dlk_app {xs ys : List (Key × Dt)} {k : Key} : dlk (xs ++ ys) k = (dlk xs k).or (dlk ys k) := by
  unfold dlk
  rw [List.find?_append]
  cases xs.find? fun kv => decide (kv.1 = k) <;> rfl
theorem dlk_none {kvs : List (Key × Dt)} {k : Key} (h : (kvs.any fun kv => decide (kv.1 = k)) = false) : dlk kvs k = none := by
  unfold dlk
  rw [List.find?_eq_none.mpr fun q hq z => by rw [List.any_eq_false.mp h q hq |> fun w => (by simpa using w : ¬ q.1 = k) |> (decide_eq_false ·)] at z; cases z]
  rfl
theorem dlk_map {kvs : List (Key × Dt)} {k j : Key} {v : Dt} : dlk (kvs.map fun kv => if kv.1 = k then (kv.1, v) else kv) j = if j = k then (dlk kvs j).map (fun _ => v) else dlk kvs j := by
  induction kvs with
  | nil => unfold dlk; split <;> rfl
  | cons q kvs ih =>
    rw [List.map_cons]
    by_cases h1 : q.1 = k
    · rw [if_pos h1]
      by_cases h2 : q.1 = j
      · rw [dlk_pos (p := (q.1, v)) h2, dlk_pos h2, if_pos (h2.symm.trans h1)]
        rfl
      · rw [dlk_neg (p := (q.1, v)) h2, dlk_neg h2, ih]
    · rw [if_neg h1]
      by_cases h2 : q.1 = j
      · rw [dlk_pos h2, dlk_pos h2, if_neg fun z => h1 (h2.trans z)]
      · rw [dlk_neg h2, dlk_neg h2, ih]
theorem dlk_dpt {kvs : List (Key × Dt)} {k j : Key} {v : Dt} : dlk (dpt kvs k v) j = if j = k then some v else dlk kvs j := by
  unfold dpt
  cases h : kvs.any fun kv => decide (kv.1 = k) with
  | true =>
    rw [if_pos rfl, dlk_map]
    by_cases e : j = k
    · subst e
      rw [if_pos rfl, if_pos rfl]
      obtain ⟨q, hq, hk⟩ := List.any_eq_true.mp h
      obtain ⟨t, ht⟩ := dlk_some hq
      rw [of_decide_eq_true hk] at ht
      rw [ht]
      rfl
    · rw [if_neg e, if_neg e]
  | false =>
    rw [if_neg (by intro z; cases z), dlk_app]
    by_cases e : j = k
    · subst e
      rw [dlk_none h, if_pos rfl]
      show dlk [(j, v)] j = _
      rw [dlk_pos rfl]
    · rw [if_neg e]
      have : dlk [(k, v)] j = none := by rw [dlk_neg (fun z => e z.symm)]; rfl
      rw [this]
      cases dlk kvs j <;> rfl
theorem okT_k (k : Key) : (tyD (kDt k)).isSome = true := by cases k <;> rfl
end Wv
/-! Data that == can be asked of. -/
namespace Wv
open PySem PySem.Spec PyProof.Rows L2 Evl
section
variable {g : Gx} {env : List Sl} {te : TE} {P : Dt → List Sl → Prop}
theorem et_neg (h : Et g env te fun d e => ∃ i, d = .int i ∧ P (.int (-i)) e) : Et g env (tUn (rU fun i => .int (-i)) te) P := fun c L σ H S Q q =>
  h c L σ H S _ fun x d e H1 ⟨i, e0, p⟩ S1 l k r => by
    subst e0
    cases int_rv r
    exact ⟨i, rfl, q _ _ e H1 p S1 l k (.int _)⟩
end
theorem eqF_any (q : Str) (f : List Str) : ((f.map Dt.str).any fun e => eqF e (.str q)) = decide (q ∈ f) := by
  induction f with
  | nil => rfl
  | cons a f ih =>
    rw [List.map_cons, List.any_cons, ih]
    show ((a == q) || _) = _
    by_cases h : a = q
    · rw [h, beq_self_eq_true, Bool.true_or, decide_eq_true (List.mem_cons_self ..)]
    · rw [beq_eq_false_iff_ne.mpr h, Bool.false_or]
      by_cases h2 : q ∈ f
      · rw [decide_eq_true h2, decide_eq_true (List.mem_cons_of_mem _ h2)]
      · rw [decide_eq_false h2, decide_eq_false fun z => (List.mem_cons.mp z).elim (fun z => h z.symm) h2]
theorem all_flS (f : List Str) : (f.map Dt.str).all flD = true := by
  induction f with
  | nil => rfl
  | cons a f ih => rw [List.map_cons, List.all_cons, ih]; rfl
theorem fin_s {q : Str} {f : List Str} {k : Dt → Prop} (p : k (.bl (decide (q ∈ f)))) : fIn false (.str q) (.lst (f.map .str)) k := by
  refine ⟨rfl, all_flS f, ?_⟩
  show k (.bl ((f.map Dt.str).any fun e => eqF e (.str q)))
  rw [eqF_any]
  exact p
theorem fni_s {q : Str} {f : List Str} {k : Dt → Prop} (p : k (.bl (!decide (q ∈ f)))) : fIn true (.str q) (.lst (f.map .str)) k := by
  refine ⟨rfl, all_flS f, ?_⟩
  show k (.bl (!(f.map Dt.str).any fun e => eqF e (.str q)))
  rw [eqF_any]
  exact p
mutual
def dep : Dt → Nat
  | .lst xs => deps xs + 1
  | .tup xs => deps xs + 1
  | _ => 0
def deps : List Dt → Nat
  | [] => 0
  | x :: xs => max (dep x) (deps xs)
end
theorem dep_lst (xs : List Dt) : dep (.lst xs) = deps xs + 1 := by unfold dep; rfl
theorem dep_tup (xs : List Dt) : dep (.tup xs) = deps xs + 1 := by unfold dep; rfl
theorem dep_mem {x : Dt} : ∀ {xs : List Dt}, x ∈ xs → dep x ≤ deps xs
  | y :: ys, h => by
    unfold deps
    rcases List.mem_cons.mp h with e | h
    · rw [e]; omega
    · have := dep_mem h; omega
theorem deps_le {n : Nat} : ∀ {xs : List Dt}, (∀ x ∈ xs, dep x ≤ n) → deps xs ≤ n
  | [], _ => Nat.zero_le _
  | y :: ys, h => by
    unfold deps
    have h1 := h y (List.mem_cons_self ..)
    have h2 := deps_le fun x hx => h x (List.mem_cons_of_mem _ hx)
    omega
mutual
/-- numbers, texts, lists and tuples -/
def dat : Dt → Bool
  | .lst xs => dats xs
  | .tup xs => dats xs
  | .dct _ => false
  | .ins _ _ => false
  | .st => false
  | .dtn _ _ => false
  | .str z => PyData.strOk z
  | _ => true
def dats : List Dt → Bool
  | [] => true
  | x :: xs => dat x && dats xs
end
theorem dats_of : ∀ {xs : List Dt}, (∀ x ∈ xs, dat x = true) → dats xs = true
  | [], _ => rfl
  | y :: ys, h => by
    unfold dats
    rw [h y (List.mem_cons_self ..), dats_of fun x hx => h x (List.mem_cons_of_mem _ hx)]
    rfl
theorem dats_mem {x : Dt} : ∀ {xs : List Dt}, dats xs = true → x ∈ xs → dat x = true
  | y :: ys, hp, h => by
    unfold dats at hp
    obtain ⟨h1, h2⟩ := Bool.and_eq_true_iff.mp hp
    rcases List.mem_cons.mp h with e | h
    · rw [e]; exact h1
    · exact dats_mem h2 h
mutual
theorem can_dat : ∀ (d : Dt), dat d = true → (toP d).canLay0 = true
  | .non, _ => by unfold toP; rfl
  | .bl _, _ => by unfold toP; rfl
  | .int _, _ => by unfold toP; rfl
  | .str _, h => by unfold toP PyData.canLay0; unfold dat at h; exact h
  | .lst xs, h => by unfold toP PyData.canLay0; unfold dat at h; exact can_dats xs h
  | .tup xs, h => by unfold toP PyData.canLay0; unfold dat at h; exact can_dats xs h
  | .dct _, h => by unfold dat at h; cases h
  | .ins _ _, h => by unfold dat at h; cases h
  | .st, h => by unfold dat at h; cases h
  | .dtn _ _, h => by unfold dat at h; cases h
theorem can_dats : ∀ (xs : List Dt), dats xs = true → PyData.canLayAll0 (toPs xs) = true
  | [], _ => by unfold toPs; rfl
  | x :: xs, h => by
    unfold toPs PyData.canLayAll0
    unfold dats at h
    obtain ⟨h1, h2⟩ := Bool.and_eq_true_iff.mp h
    rw [can_dat x h1, can_dats xs h2]
    rfl
end
mutual
theorem dep_toP : ∀ (d : Dt), (toP d).depth ≤ dep d + 1
  | .non => by unfold toP; exact Nat.le_of_ble_eq_true rfl
  | .bl _ => by unfold toP; exact Nat.le_of_ble_eq_true rfl
  | .int _ => by unfold toP; exact Nat.le_of_ble_eq_true rfl
  | .str _ => by unfold toP; exact Nat.le_of_ble_eq_true rfl
  | .lst xs => by unfold toP dep; unfold PyData.depth; have := deps_toPs xs; omega
  | .tup xs => by unfold toP dep; unfold PyData.depth; have := deps_toPs xs; omega
  | .dct _ => by unfold toP; exact Nat.le_of_ble_eq_true rfl
  | .ins _ _ => by unfold toP; exact Nat.le_of_ble_eq_true rfl
  | .st => by unfold toP; exact Nat.le_of_ble_eq_true rfl
  | .dtn _ _ => by unfold toP; exact Nat.le_of_ble_eq_true rfl
theorem deps_toPs : ∀ (xs : List Dt), PyData.depthAll (toPs xs) ≤ deps xs + 1
  | [] => by unfold toPs; exact Nat.le_of_ble_eq_true rfl
  | x :: xs => by
    unfold toPs deps
    unfold PyData.depthAll
    have h1 := dep_toP x
    have h2 := deps_toPs xs
    omega
end
theorem shp_of {d : Dt} (h : dat d = true) (hd : dep d < 60) : shp d := by
  unfold shp SeqAt.shaped
  rw [can_dat d h]
  have := dep_toP d
  rw [decide_eq_true (by omega)]
  rfl
theorem eqv_nil (ts : List Dt) : PyData.eqv (toP (.lst ts)) (toP (.lst [])) = ts.isEmpty := by
  unfold toP
  cases ts with
  | nil => unfold toPs PyData.eqv PyData.eqvAll; rfl
  | cons x xs => unfold toPs PyData.eqv PyData.eqvAll; rfl
theorem fne_nil {ts : List Dt} {k : Dt → Prop} (h : dats ts = true) (hd : deps ts < 50) (p : k (.bl (!ts.isEmpty))) : fNe (.lst ts) (.lst []) k := by
  refine ⟨shp_of (by unfold dat; exact h) (by rw [dep_lst]; omega), shp_of rfl (by decide), ?_⟩
  rw [eqv_nil]
  exact p
theorem feq_nil {ts : List Dt} {k : Dt → Prop} (h : dats ts = true) (hd : deps ts < 50) (p : k (.bl ts.isEmpty)) : fEq (.lst ts) (.lst []) k := by
  refine ⟨shp_of (by unfold dat; exact h) (by rw [dep_lst]; omega), shp_of rfl (by decide), ?_⟩
  rw [eqv_nil]
  exact p
end Wv
/-! Instances: made by their class, filled by __init__. -/
namespace Wv
open PySem PySem.Spec PyProof.Rows L2 Evl
section
variable {K : PySem.W.Frag} {g : Gx} {c : Cc} {H H1 H2 H' : Hp} {σ : L2.St} {env e1 : List Sl} {te : TE} {P : Dt → List Sl → Prop} {x C : Addr} {fs : List (Str × Dt)} {f : Str} {d : Dt} {y : V} {E : XK} {D : Ends}
def putD (f : Str) (v : Dt) : List (Str × Dt) → List (Str × Dt)
  | [] => [(f, v)]
  | (g, x) :: r => if g = f then (g, v) :: r else (g, x) :: putD f v r
theorem Tb.putF {so : Option Addr} {O : Addr → Prop} (r : Rv so O H y d) : ∀ {xs : List (Str × V)} {ds : List (Str × Dt)}, Tb so O H xs ds → Tb so O H (L2.putF f y xs) (putD f d ds)
  | [], [], _ => Tb.cons r Tb.nil
  | [], _ :: _, h => by have := h.len; simp at this
  | _ :: _, [], h => by have := h.len; simp at this
  | p :: xs, q :: ds, h => by
    obtain ⟨h1, h2, h3⟩ := h.tail
    obtain ⟨a, z⟩ := p
    obtain ⟨b, e⟩ := q
    simp only at h1
    subst h1
    unfold L2.putF putD
    split
    · exact Tb.cons r h3
    · exact Tb.cons h2 (Tb.putF r h3)
/-- an instance of C in the making at x -/
structure Ni (K : PySem.W.Frag) (c : Cc) (x C : Addr) (H : Hp) (fs : List (Str × Dt)) : Prop extends Hb K (c.add x) H where
  nb : c.B x = none
  no : ¬ c.O x
  cso : SO c
  at_ : ∃ dx xs, H x = some (.ins C dx xs) ∧ Tb c.so (c.add x).O H xs fs
/-- a promise of an __init__ -/
def spI (K : PySem.W.Frag) (lk : Bool) (C : Addr) (R : Rd3) : Sp := fun vs H Q E => ∃ (c : Cc) (x : Addr) (vs' : List V) (ds : List Dt) (P : Dt → Prop) (xe : Addr → List (Str × Dt) → Prop), vs = .ref x :: vs' ∧ Ni K c x C H [] ∧ Rvs c.so (c.add x).O H vs' ds ∧ R ds P xe ∧
  (∀ fs H', P (.ins C fs) → Hb K c H' → Rv c.so c.O H' (.ref x) (.ins C fs) → Q .non H') ∧ Lk ⟨K, E, xe, lk, []⟩ c
theorem i_len {R : Rd3} {lk : Bool} {vs : List V} {Q : VK} (n : Nat) (h : spI K lk C R vs H Q E) (hR : ∀ ds P xe, R ds P xe → ds.length = n) : vs.length = n + 1 := by
  obtain ⟨c, x, vs', ds, P, xe, rfl, _, rs, hr, _⟩ := h
  rw [List.length_cons, rs.1, hR _ _ _ hr]
theorem make_core {R : Rd3} {lk : Bool} {vs : List V} {ds : List Dt} {P : Dt → Prop} {xe : Addr → List (Str × Dt) → Prop} {Q : VK} (L : Lk ⟨g.K, E, xe, lk, []⟩ ⟨H, c.so, c.cc, Av c σ env, lk, lk⟩) (S : Sv g.K c H σ env) (hlk : lkle lk c.lk) (rs : Rvs c.so (Av c σ env) H vs ds) (r : R ds P xe)
    (q : ∀ x d H', P d → Sv g.K c H' σ env → Ko (Mv c σ env) (An c σ env) H H' → Rv c.so (Av c σ env) H' x d → Q x H') (x dx : Addr) (h1 : H x = none) (h2 : H dx = none) (h3 : dx ≠ x) :
    spI g.K lk C R (.ref x :: (vs ++ [])) (upd (upd H dx (.own x)) x (.ins C dx [])) (fun v H2 => v = .non ∧ Q (.ref x) H2) E := by
  have ex : Ex H (upd (upd H dx (.own x)) x (.ins C dx [])) := (Ex.new h2).trans (Ex.new (by rw [upd_ne (Ne.symm h3)]; exact h1))
  have nx : ¬ Av c σ env x := fun z => S.lk_av x z h1
  have sO := (Hb.av (lk := lk) S).sO
  have dm : ∀ a, (Cc.add ⟨H, c.so, c.cc, Av c σ env, lk, lk⟩ x).O a → (upd (upd H dx (.own x)) x (.ins C dx [])) a ≠ none := fun a z => by
    rcases z with z | z
    · exact ex_some ex (S.lk_av a z)
    · rw [z, upd_same]; exact fun w => nomatch w
  refine ⟨⟨H, c.so, c.cc, Av c σ env, lk, lk⟩, x, vs, ds, P, xe, by rw [List.append_nil], ⟨⟨Ko.ex ex, id, fun a z => ⟨.inl (sO a z).1, fun s w => .inl ((sO a z).2 s w)⟩, dm, S.stt.ex ex⟩, h1, nx, sO, dx, [], upd_same, Tb.nil⟩, ?_, r, fun fs H' p hb rv => ⟨rfl, ?_⟩, L⟩
  · exact ⟨rs.1, fun i v d e1 e2 => ((rs.2 i v d e1 e2).avoid fun a z => z.imp id fun z => by rw [z]; exact h1).ex ex⟩
  · obtain ⟨s1, s2⟩ := S.call hlk hb
    exact q _ _ H' p s1 s2 rv
theorem et_make {R : Rd3} {lk : Bool} {ta : TA} (hlk : lkle lk g.lk) (h : Ea g env ta fun ds e1 => R ds (fun t => P t e1) g.xe) : Et g env (tMake C (spI g.K lk C R) [] g.E ta) P := fun c L σ H S Q q =>
  h c L σ H S _ fun xs ds e1 H1 p S1 l1 k1 r1 => make_core (L.call S1 hlk) S1 (by rw [← L.1]; exact hlk) r1 p fun x d H' pd s k rv => q x d e1 H' pd s l1 (k1.trans (k.le l1)) rv
theorem et_make0 {R : Rd3} {lk : Bool} {ta : TA} {E : XK} (hlk : lkle lk g.lk) (h : Ea g env ta fun ds e1 => R ds (fun t => P t e1) fun _ _ => False) : Et g env (tMake C (spI g.K lk C R) [] E ta) P := fun c L σ H S Q q =>
  h c L σ H S _ fun xs ds e1 H1 p S1 l1 k1 r1 => make_core Lk.none S1 (by rw [← L.1]; exact hlk) r1 p fun x d H' pd s k rv => q x d e1 H' pd s l1 (k1.trans (k.le l1)) rv
/-- a call within __init__ -/
theorem Ni.call {R : Rd3} {lk lk' : Bool} {vs : List V} {ds : List Dt} {Pd : Dt → Prop} {xe : Addr → List (Str × Dt) → Prop} {Q : VK} (N : Ni K c x C H fs) (hlk : lkle lk' c.lk) (L : Lk ⟨K, E, xe, lk, []⟩ (c.add x)) (rs : Rvs c.so (c.add x).O H vs ds) (r : R ds Pd xe)
    (q : ∀ v d H', Pd d → Ni K c x C H' fs → (∀ v e, Rv c.so (c.add x).O H v e → Rv c.so (c.add x).O H' v e) → Rv c.so (c.add x).O H' v d → Q v H') : spW K lk' R (vs ++ []) H Q E := by
  have back : ∀ H', Hb K ⟨H, c.so, c.cc, (c.add x).O, lk', lk'⟩ H' → Hb K (c.add x) H' ∧ Ko (c.add x).O (c.add x).O H H' ∧ H' x = H x := fun H' hb => by
    have kk : ∀ a, (c.lb = false ∨ (c.add x).O a) → lk' = false ∨ (c.add x).O a := fun a z => by
      cases e : lk' with
      | false => exact .inl rfl
      | true => exact .inr (z.elim (fun z => by have w : c.lb = true := N.lkb (hlk e); rw [show c.lb = false from z] at w; cases w) id)
    have k0 : Ko (fun a => Chg c.so c.cc a) (fun a => lk' = false ∨ (c.add x).O a) H H' := hb.base
    refine ⟨⟨N.base.trans (k0.mono (fun a z => z) kk), N.lkb, N.sO, fun a z => k0.2 a (N.dom a z), hb.stt⟩, k0.mono (fun a z => (N.sO a z).1) fun a z => .inr z, ?_⟩
    exact k0.same (fun z => N.no (N.cso x z).1) (.inr (.inr rfl)) (N.dom x (.inr rfl))
  refine ⟨c.so, c.cc, (c.add x).O, ds, Pd, xe, ⟨Ko.refl, id, N.sO, N.dom, N.stt⟩, by rw [List.append_nil]; exact rs, r, fun v d H' p hb rv => ?_, rfl, fun C fs hx H' d xs hb h1 h2 h3 => L.2.1 C fs hx H' d xs (back H' hb).1 h1 h2 h3, .inl rfl⟩
  obtain ⟨b1, b2, b3⟩ := back H' hb
  obtain ⟨dx, xs, a1, a2⟩ := N.at_
  exact q v d H' p ⟨b1, N.nb, N.no, N.cso, dx, xs, by rw [b3]; exact a1, a2.keep b2⟩ (fun v e z => z.keep b2) rv
/-- self.f = v -/
theorem Ni.store {i : Nat} (N : Ni K c x C H fs) (hs : σ[i]? = some (some (.ref x))) (cl : Cls K C) (na : NoAttr K C f) (hl : fs.length < 1000) (r : Rv c.so (c.add x).O H y d)
    (q : ∀ H', Ni K c x C H' (putD f d fs) → (∀ v e, Rv c.so (c.add x).O H v e → Rv c.so (c.add x).O H' v e) → D.nx σ H') :
    tVar i σ H fun x H2 => ∃ a C dx fs, x = .ref a ∧ H2 a = some (.ins C dx fs) ∧ Cls K C ∧ NoAttr K C f ∧ fs.length < 1000 ∧ D.nx σ (upd H2 a (.ins C dx (putF f y fs))) := by
  obtain ⟨dx, xs, a1, a2⟩ := N.at_
  have kp : ∀ {o : HO}, Ko (c.add x).O (c.add x).O H (upd H x o) := fun {o} => Ko.mut (.inr rfl)
  refine ⟨.ref x, hs, x, C, dx, xs, rfl, a1, cl, na, by rw [a2.len]; exact hl, q _ ⟨⟨⟨fun a u n z => ?_, fun a z => upd_some (N.base.2 a z)⟩, N.lkb, N.sO, fun a z => upd_some (N.dom a z), N.stt.put (fun s z => ⟨fun w => N.no (by rw [w]; exact (N.cso s (.inl z)).1), fun w => N.no (by rw [w]; exact (N.cso s (.inl z)).2 s z)⟩) ⟨_, a1, (fun _ z => nomatch z), (fun _ z => nomatch z)⟩⟩, N.nb, N.no, N.cso, dx, _, upd_same, (a2.putF r).keep kp⟩ fun v e z => z.keep kp⟩
  have ne : a ≠ x := fun w => by rw [w] at z; have nb := N.nb; rw [show c.B x = some u from z] at nb; cases nb
  rw [upd_ne ne]
  exact N.base.1 a u n z
/-- self.f within __init__ -/
theorem Ni.get {t : Dt} (N : Ni K c x C H fs) (h : fs.lookup f = some t) : ∃ dx xs v, H x = some (.ins C dx xs) ∧ xs.lookup f = some v ∧ Rv c.so (c.add x).O H v t := by
  obtain ⟨dx, xs, a1, a2⟩ := N.at_
  obtain ⟨v, z1, z2⟩ := a2.lookup h
  exact ⟨dx, xs, v, a1, z1, z2⟩
theorem Ni.rv (N : Ni K c x C H fs) : Rv c.so c.O H (.ref x) (.ins C fs) := by
  obtain ⟨dx, xs, a1, a2⟩ := N.at_
  exact .ins (dx := dx) N.no a1 a2.1 fun i k v k' d e1 e2 => (a2.2 i k v k' d e1 e2).mono fun a z => .inl z
/-- what is left of __init__, self being a tree from then on -/
theorem Ni.rest {t : TS} {lk : Bool} {xe : Addr → List (Str × Dt) → Prop} {Pd : Dt → Prop} {Q : VK} (N : Ni K c x C H fs) (L : Lk ⟨K, E, xe, lk, []⟩ c) (hs : σ[0]? = some (some (.ref x))) (n : Nat) (hn : σ.length = n + 1)
    (hq : ∀ H', Pd (.ins C fs) → Hb K c H' → Rv c.so c.O H' (.ref x) (.ins C fs) → Q .non H')
    (h : Wd ⟨K, E, xe, lk, []⟩ (.v (.ins C fs) :: List.replicate n .no) t { nx := fun _ => Pd (.ins C fs), rt := fun d => d = .non ∧ Pd (.ins C fs) }) : t { nx := fun _ H' => Q .non H', rt := Q } σ H := by
  have own : ∀ (i : Nat) (d : Dt), (Sl.v (.ins C fs) :: List.replicate n Sl.no)[i]? ≠ some (Sl.own d) := fun i d z => by
    cases i with
    | zero => cases z
    | succ i =>
      rw [List.getElem?_cons_succ, List.getElem?_replicate] at z
      split at z <;> cases z
  have av : ∀ a, Av c σ (.v (.ins C fs) :: List.replicate n .no) a → c.O a := fun a z => z.elim id fun ⟨i, d, z, _⟩ => absurd z (own i d)
  have hb : Hb K c H := Hb.less (g := ⟨K, E, xe, lk, []⟩) N.toHb N.cso
  refine h c L σ H ⟨hb, by rw [hn]; simp, fun i j d e a z => absurd z (own i d), fun i d z => ?_, fun i d z => absurd z (own i d)⟩ _ (fun σ' H' e' S' f p => hq H' p S'.toHb (N.rv.keep (f.1.mono (fun a z => av a (Mv.av N.cso a z)) fun a z => .inr (.inl z)))) (fun _ _ _ _ _ z => z.elim) (fun _ _ _ _ _ z => z.elim) fun x d H' p hb' k rv => ?_
  · cases i with
    | zero => cases z; exact ⟨_, hs, N.rv.mono av⟩
    | succ i =>
      rw [List.getElem?_cons_succ, List.getElem?_replicate] at z
      split at z <;> cases z
  · obtain ⟨rfl, p⟩ := p
    cases rv
    exact hq H' p hb' (N.rv.keep (k.mono (fun a z => av a (Mv.av N.cso a z)) fun a z => .inr (.inl z)))
end
end Wv
/-! Slices of lists with a step; ranges with a step. -/
namespace L2
open PySem PySem.Spec PyProof.Rows
/-- the items of xs[lo:hi:st] -/
def pickG {α : Type} (xs : List α) (lo hi st : Option Int) : List α := (sliceRange (sliceBounds lo hi st xs.length).1 (sliceBounds lo hi st xs.length).2.1 (sliceBounds lo hi st xs.length).2.2).filterMap (xs[·]?)
theorem pickG_len {α : Type} (xs : List α) (lo hi st : Option Int) : (pickG xs lo hi st).length ≤ xs.length := by
  have h := slicePick_size_le (xs.map fun _ => Value.none).toArray lo hi st
  unfold slicePick at h
  unfold pickG
  rw [List.size_toArray] at h
  simp only [List.size_toArray, List.length_map] at h
  refine Nat.le_trans (Nat.le_of_eq ?_) h
  generalize sliceRange _ _ _ = l
  induction l with
  | nil => rfl
  | cons i l ih =>
    rw [List.filterMap_cons, List.filterMap_cons]
    simp only [List.getElem?_toArray, List.getElem?_map] at ih ⊢
    cases xs[i]? with
    | none => exact ih
    | some x => simp only [Option.map_some, List.length_cons, ih]
theorem vals_pick {xs : List V} {us : List Value} (r : Vals xs us) (lo hi st : Option Int) : Vals (pickG xs lo hi st) (pickG us lo hi st) := by
  unfold pickG
  rw [r.length]
  generalize sliceRange _ _ _ = l
  induction l with
  | nil => exact .nil
  | cons i l ih =>
    rw [List.filterMap_cons, List.filterMap_cons]
    cases e : xs[i]? with
    | none =>
      have : us[i]? = none := by
        rw [List.getElem?_eq_none_iff] at e ⊢
        rw [← r.length]
        exact e
      rw [this]
      exact ih
    | some x =>
      obtain ⟨u, h1, h2⟩ := r.get e
      rw [h1]
      exact .cons h2 ih
theorem pick_arr (us : List Value) (lo hi st : Option Int) : slicePick us.toArray lo hi st = (pickG us lo hi st).toArray := by
  unfold slicePick pickG
  rw [List.size_toArray]
  simp only [List.getElem?_toArray]
section
variable {X : Cx} {e : Expr} {te : TE} {lo hi : Option Expr} {se : Expr} {tl th ts : TO} {pos p2 : Pos}
def tSl3 (K : PySem.W.Frag) (te : TE) (tl th ts : TO) : TE := fun σ H Q => te σ H fun x H1 => tl σ H1 fun l H2 => th σ H2 fun u H3 => ts σ H3 fun z H4 => ∃ a xs, x = .ref a ∧ SqL K H4 a xs ∧ z ≠ some 0 ∧ ∀ p, H4 p = none → Q (.ref p) (upd H4 p (.lst (pickG xs l u z)))
theorem pe_slice3 {K : PySem.W.Frag} (he : PE X e te) (hl : PO X lo tl) (hu : PO X hi th) (hz : PO X (some se) ts) (hK : X.K = K := by rfl) :
    PE X (.Subscript e (.Slice lo hi (some se) p2) pos) (tSl3 K te tl th ts) := by
  subst hK
  refine ⟨fun pins s σ H Q I h => ?_⟩
  refine Subscript_ (thn (he.run pins s σ H _ I h) fun v s1 ⟨x, H1, I1, r1, q1⟩ => ?_)
  refine wpAny_Slice (thn (hl.run pins s1 σ H1 _ I1 q1) fun vl s2 ⟨l, H2, I2, pl, q2⟩ => thn (hu.run pins s2 σ H2 _ I2 q2) fun vu s3 ⟨u, H3, I3, pu, q3⟩ => thn (hz.run pins s3 σ H3 _ I3 q3) fun vs s4 ⟨z, H4, I4, ps, q4⟩ => ?_)
  obtain ⟨a, xs, rfl, hx, h0, q⟩ := q4
  cases r1
  have I5 : Inv X pins σ H4 { s4 with heap := s4.heap.push { cls := .type "slice", data := .fields #[vl, vu, vs] } } := I4.kept (t' := s4.toks) fun b ob q => Heap.get?_push_of_some _ q
  obtain ⟨its, r, ht, hz⟩ := I5.list hx
  have hlen := r.length
  show wpAny (model X.prog X.w) X.A (subscriptTail e (.Slice lo hi (some se) p2) (.ref a) (.ref s4.heap.objs.size)) (EP X pins σ Q) X.xe { s4 with heap := s4.heap.push { cls := .type "slice", data := .fields #[vl, vu, vs] } }
  refine tail_any (ops := [.ref a, .ref s4.heap.objs.size]) ht.isList.typeIs (PySem.slot_list_getitem.lookup) ?_ (by with_unfolding_all rfl)
  refine wpAny_getItem_list_slice ht.isList (Heap.IsSliceOf.new _ vl vu vs) pl pu ps h0 ?_ (by rw [List.size_toArray]; omega)
  rw [pick_arr]
  refine ⟨.ref _, _, I5.laid (t' := s4.toks) (o := .lst (pickG xs l u z)) (fun b ob q => Heap.get?_push_of_some _ q) (Nat.le_refl _) ?_, rfl, q _ (I5.hok.fresh (Nat.le_refl _))⟩
  exact ⟨Nat.le_trans (pickG_len xs l u z) hz, _, 0, vals_pick r l u z, Heap.get?_push_size _ rfl⟩
end
end L2
namespace Wv
open PySem PySem.Spec PyProof.Rows L2 Evl
section
variable {g : Gx} {c : Cc} {H H1 H2 H' : Hp} {σ : L2.St} {env e1 : List Sl} {ta tb te : TE} {P : Dt → List Sl → Prop} {so : Option Addr} {O : Addr → Prop}
theorem Rvs.pick {xs : List V} {ds : List Dt} (r : Rvs so O H xs ds) (lo hi st : Option Int) : Rvs so O H (pickG xs lo hi st) (pickG ds lo hi st) := by
  unfold pickG
  rw [r.1]
  generalize sliceRange _ _ _ = l
  induction l with
  | nil => exact Rvs.nil
  | cons i l ih =>
    rw [List.filterMap_cons, List.filterMap_cons]
    cases e : ds[i]? with
    | none =>
      have : xs[i]? = none := by
        rw [List.getElem?_eq_none_iff] at e ⊢
        rw [r.1]
        exact e
      rw [this]
      exact ih
    | some d =>
      obtain ⟨u, h1, h2⟩ := r.get e
      rw [h1]
      exact Rvs.cons h2 ih
theorem ef_sl3 {tl th ts : TO} (h : Et g env te fun d e => ∃ ds, d = .lst ds ∧ Eo g e tl fun lo e2 => Eo g e2 th fun hi e3 => Eo g e3 ts fun st e4 => st ≠ some 0 ∧ P (.lst (pickG ds lo hi st)) e4) : Ef g env (tSl3 g.K te tl th ts) P := fun c L σ H S Q q =>
  h c L σ H S _ fun x d e1 H1 ⟨ds, e0, p1⟩ S1 l1 k1 r1 => p1 c L σ H1 S1 _ fun lo e2 H2 p2 S2 l2 k2 => p2 c L σ H2 S2 _ fun hi e3 H3 p3 S3 l3 k3 => p3 c L σ H3 S3 _ fun st e4 H4 ⟨h0, p⟩ S4 l4 k4 => by
    subst e0
    have r4 := (S3.kp ((S2.kp ((S1.kp r1 k2).mono (Av.le l2)) k3).mono (Av.le l3)) k4).mono (Av.le l4)
    have kk := ((k1.trans (k2.le l1)).trans (k3.le (l1.trans l2))).trans (k4.le ((l1.trans l2).trans l3))
    have ll := ((l1.trans l2).trans l3).trans l4
    obtain ⟨a, xs, rfl, ho, h1, rs, hz⟩ := lst_rv r4
    exact ⟨a, xs, rfl, .inl (.inl h1), h0, fun l hl => q l _ e4 _ p (S4.add hl) ll (kk.trans (Ko.new hl)) (kk.back hl) (ol_new (rs.pick lo hi st) (Nat.le_trans (pickG_len _ _ _ _) hz) hl fun b z => Av.add.mp z)⟩
/-- i, i + c, .. below j -/
def rngC (i j c : Int) : List Dt := (List.range (Builtin.Range.rangeSize i j c).toNat).map fun (k : Nat) => .int (i + (k : Int) * c)
theorem three_rv {xs : List V} {d e f : Dt} (r : Rvs so O H xs [d, e, f]) : ∃ x y z, xs = [x, y, z] ∧ Rv so O H x d ∧ Rv so O H y e ∧ Rv so O H z f := by
  obtain ⟨h1, h2⟩ := r
  match xs, h1 with
  | [x, y, z], _ => exact ⟨x, y, z, rfl, h2 0 x d rfl rfl, h2 1 y e rfl rfl, h2 2 z f rfl rfl⟩
theorem size_nn (i j c : Int) (hc : 0 < c) : 0 ≤ Builtin.Range.rangeSize i j c := by
  unfold Builtin.Range.rangeSize
  rw [if_pos hc]
  split
  · have := Int.ediv_nonneg (show 0 ≤ j - i - 1 by omega) (Int.le_of_lt hc)
    omega
  · exact Int.le_refl _
theorem ei_rng3 {ta : TA} {PL : List Dt → List Sl → Prop} (h : Ea g env ta fun ds e => ∃ i j c : Int, ds = [.int i, .int j, .int c] ∧ (0 ≤ i ∧ i ≤ 20000 ∧ 0 ≤ j ∧ j ≤ 20000 ∧ 0 < c ∧ c ≤ 20000) ∧ PL (rngC i j c) e) : Ei g env (iRng3 ta) PL := fun c L σ H S R q =>
  h c L σ H S _ fun xs ds e H1 ⟨i, j, k, e0, ⟨h1, h2, h3, h4, h5, h6⟩, p⟩ S1 l kk r => by
    subst e0
    obtain ⟨x, y, z, rfl, r1, r2, r3⟩ := three_rv r
    cases int_rv r1
    cases int_rv r2
    cases int_rv r3
    have hs := size_nn i j k h5
    have hz : (Builtin.Range.rangeSize i j k).toNat ≤ Zz := by
      unfold Builtin.Range.rangeSize
      rw [if_pos h5]
      split
      · have : (j - i - 1) / k ≤ j - i - 1 := Int.ediv_le_self _ (by omega)
        simp only [Zz]
        omega
      · exact Nat.zero_le _
    have hn2 : Builtin.Range.rangeSize i j k ≤ 20000 := by simp only [Zz] at hz; omega
    have hl : (rngC i j k).length = (Builtin.Range.rangeSize i j k).toNat := by simp [rngC]
    refine ⟨i, j, k, (Builtin.Range.rangeSize i j k).toNat, rfl, ⟨by omega, by omega, ?_, by omega⟩, q _ _ e H1 p S1 l kk ⟨by rw [hl]; exact hz, fun a H' ha k => by rw [hl] at ha; exact ha, fun H' k => by rw [hl]; exact Nat.le_refl _, fun O' a H' x H'' ha k h1 h2 ⟨e, y⟩ => ?_⟩⟩
    · unfold Builtin.Range.small
      simp only [Builtin.Range.rangeFitsLong, Bool.and_eq_true, Bool.or_eq_true, decide_eq_true_eq, beq_iff_eq, h5, gt_iff_lt, if_true]
      omega
    · subst e y
      rw [hl] at ha
      exact ⟨Ex.refl _, _, by unfold rngC; rw [List.getElem?_map, List.getElem?_range ha]; rfl, .int _⟩
end
end Wv
/-! Written dicts of texts and numbers. -/
namespace Wv
open PySem PySem.Spec PyProof.Rows L2 Evl
section
variable {g : Gx} {c : Cc} {H : Hp} {σ : L2.St} {env : List Sl} {P : Dt → List Sl → Prop} {so : Option Addr} {O : Addr → Prop}
def cTrs (kvs : List (Str × Int)) : List (TE × TE) := kvs.map fun kv => (tC (.str kv.1), tC (.int kv.2))
theorem tp_c : ∀ (kvs : List (Str × Int)) {H : Hp} {Q : List (V × V) → Hp → Prop}, Q (kvs.map fun kv => (.str kv.1, .int kv.2)) H → tPairs (cTrs kvs) σ H Q
  | [], _, _, q => q
  | kv :: r, H, Q, q => tp_c r (Q := fun ps H3 => Q ((.str kv.1, .int kv.2) :: ps) H3) q
def dispD (kvs : List (Str × Int)) : List (Key × Dt) := kvs.foldl (fun a kv => dpt a (.inr kv.1) (.int kv.2)) []
theorem tb_disp : ∀ (kvs : List (Str × Int)) (xs : List (Key × V)) (ds : List (Key × Dt)), Tb so O H xs ds → Tb so O H (L2.mergeK xs (kvs.map fun kv => ((.inr kv.1 : Key), V.int kv.2))) (kvs.foldl (fun a kv => dpt a (.inr kv.1) (.int kv.2)) ds)
  | [], _, _, h => h
  | kv :: r, xs, ds, h => tb_disp r _ _ (h.put (.int kv.2))
theorem disp_len : ∀ (kvs : List (Str × Int)) (ds : List (Key × Dt)), (kvs.foldl (fun a kv => dpt a (.inr kv.1) (.int kv.2)) ds).length ≤ ds.length + kvs.length
  | [], ds => Nat.le_refl _
  | kv :: r, ds => by
    have h1 := disp_len r (dpt ds (.inr kv.1) (.int kv.2))
    have h2 := dpt_len ds (.inr kv.1) (.int kv.2)
    rw [List.foldl_cons, List.length_cons]
    omega
theorem ef_disp (kvs : List (Str × Int)) {trs : List (TE × TE)} (ht : trs = cTrs kvs) (hl : kvs.length ≤ 15) (p : P (.dct (dispD kvs)) env) : Ef g env (tDisp trs) P := fun c L σ H S Q q a ha => by
  subst ht
  refine tp_c kvs ⟨upd_same, kvs.map fun kv => ((.inr kv.1 : Key), V.int kv.2), by rw [List.map_map]; rfl, by rw [List.length_map]; exact hl, ?_⟩
  have S1 : Sv g.K (c.add a) (upd H a (.dK [])) σ env := S.add ha
  have ne : ∀ s, c.so = some s → a ≠ s ∧ a ≠ c.cc.cc := fun s z => ⟨fun w => S.dom s (S.sO s (.inl z)).1 (by rw [← w]; exact ha), fun w => S.dom c.cc.cc ((S.sO s (.inl z)).2 s z) (by rw [← w]; exact ha)⟩
  have S2 := S1.wrO (o := .dK (L2.mergeK [] (kvs.map fun kv => ((.inr kv.1 : Key), V.int kv.2)))) (.inr rfl) ne (base_none S ha) ⟨_, upd_same, (fun _ z => nomatch z), (fun _ z => nomatch z)⟩
  have tb : Tb c.so (Av (c.add a) σ env) (upd (upd H a (.dK [])) a (.dK (L2.mergeK [] (kvs.map fun kv => ((.inr kv.1 : Key), V.int kv.2))))) _ (dispD kvs) := tb_disp kvs [] [] Tb.nil
  refine q a (.dct (dispD kvs)) env _ p S2 Le.refl ?_ ha ⟨_, upd_same, tb.1, ?_, tb.2⟩
  · have e : ∀ x y, upd (upd H a x) a y = upd H a y := fun x y => funext fun b => by
      by_cases hb : b = a
      · rw [hb, upd_same, upd_same]
      · rw [upd_ne hb, upd_ne hb, upd_ne hb]
    rw [e]
    exact Ko.new ha
  · have := disp_len kvs []
    have h2 : (dispD kvs).length ≤ 15 := Nat.le_trans this (by simpa using hl)
    simp only [Zz]
    omega
end
end Wv
/-! Three targets at once. -/
namespace Wv
open PySem PySem.Spec PyProof.Rows L2 Evl
section
variable {g : Gx} {c : Cc} {H : Hp} {σ : L2.St} {env : List Sl} {te1 te2 te3 : TE} {E : De}
theorem wd_par3 {i j l : Nat} (hij : i ≠ j) (hil : i ≠ l) (h : Et g env te1 fun d1 e => Ef g e te2 fun d2 e2 => Ef g e2 te3 fun d3 e3 => E.nx (((e3.set j (.own d2)).set l (.own d3)).set i (.v d1))) : Wd g env (tPar3 i j l (tCons te1 (tCons te2 (tCons te3 tNil)))) E := fun c L σ H S D n b k r =>
  h c L σ H S _ fun x d e1 H1 p1 S1 l1 k1 r1 => (pr_OO (i := j) (j := l) (E := { nx := fun e => E.nx (e.set i (.v d)), rt := fun _ => False }) p1) c L σ H1 S1 _ fun v w H' e' S' f p => by
    refine ⟨x, v, w, rfl, ?_⟩
    have rx : Rv c.so (Av c ((σ.set j (some v)).set l (some w)) e') H' x d := r1.later (f.1.mono (Mv.av S1.sO) fun _ z => z) fun a z => z.elim (fun z => .inl (.inl z)) fun z => (f.2 a z).imp .inr id
    have es : ((σ.set i (some x)).set j (some v)).set l (some w) = ((σ.set j (some v)).set l (some w)).set i (some x) := by
      rw [List.set_comm _ _ hij, List.set_comm _ _ hil]
    rw [es]
    exact n _ H' _ (S'.set_v rx) (((fw_e l1 k1).trans f).trans ⟨Ko.refl, fun a z => .inl (ow_set_v z)⟩) p
end
end Wv
/-! zip of two lists. -/
namespace L2
open PySem PySem.Spec PyProof.Rows
theorem pi_zipK {X : Cx} {K : PySem.W.Frag} {e e2 : Expr} {ta : TA} {p pos tpos : Pos} {elts : List Expr} {kk : Nat} (hg : Gl X "zip") (hm : X.mg "zip" = none) (ha : PA X [e, e2] ta) (hK : X.K = K := by rfl)
    (hs : starEach [e, e2] X.env = (false, eval e X.env) :: starEach [e2] X.env := by rfl) (hpl : (backTo pos (starEach [e2] X.env)).any (·.1) = false := by rfl) : PI X (.Tuple elts kk tpos) (.Call (.Name "zip" p) [e, e2] [] pos) (RZ.iZipA K ta) := by
  subst hK
  exact RZ.pi_zipA hg hm ha hs hpl
end L2
namespace Wv
open PySem PySem.Spec PyProof.Rows L2 Evl
section
variable {g : Gx} {c : Cc} {H H1 : Hp} {σ : L2.St} {env : List Sl} {PL : List Dt → List Sl → Prop} {so : Option Addr} {A : Addr → Prop} {K : PySem.W.Frag}
def zipD (ds es : List Dt) : List Dt := List.zipWith (fun x y => .tup [x, y]) ds es
theorem wk_zip {a b : Addr} {ds es : List Dt} (r1 : Rv so A H1 (.ref a) (.lst ds)) (r2 : Rv so A H1 (.ref b) (.lst es)) : Wk so A (L2.Itz K a b) (zipD ds es) H1 := by
  obtain ⟨a', xs, e1, ho1, h1, rs1, hz1⟩ := lst_rv r1
  cases e1
  obtain ⟨b', ys, e2, ho2, h2, rs2, hz2⟩ := lst_rv r2
  cases e2
  have sq1 : ∀ H', Ko A A H1 H' → SqL K H' a xs := fun H' k => .inl (.inl (k.keep1 ho1 h1 fun _ z => nomatch z))
  have sq2 : ∀ H', Ko A A H1 H' → SqL K H' b ys := fun H' k => .inl (.inl (k.keep1 ho2 h2 fun _ z => nomatch z))
  have hl : (zipD ds es).length = min ds.length es.length := by unfold zipD; rw [List.length_zipWith]
  have l1 := rs1.1
  have l2 := rs2.1
  refine ⟨by omega, fun i H' hi k => ⟨xs, ys, xs[i]'(by omega), ys[i]'(by omega), sq1 H' k, sq2 H' k, by simp, by simp⟩, fun H' k => ⟨xs, ys, sq1 H' k, sq2 H' k, by omega⟩, fun O' i H' x H'' hi k n1 n2 ⟨T, u, v, ex, hT, e, y1, y2⟩ => ?_⟩
  subst ex e
  have hi1 : i < ds.length := by omega
  have hi2 : i < es.length := by omega
  have hu := y1 xs (sq1 H' k)
  have hv := y2 ys (sq2 H' k)
  refine ⟨Ex.new hT, .tup [ds[i], es[i]], by unfold zipD; rw [List.getElem?_zipWith]; simp [hi1, hi2], ?_⟩
  have ru : Rv so O' H' u ds[i] := (rs1.2 i u ds[i] hu (by simp [hi1])).later k n1
  have rv : Rv so O' H' v es[i] := (rs2.2 i v es[i] hv (by simp [hi2])).later k n1
  exact new_tup n2 hT (Rvs.cons ru (Rvs.cons rv Rvs.nil)) (Nat.le_of_ble_eq_true rfl)
theorem ei_zip {ta : TA} (h : Ea g env ta fun ds e => ∃ xs ys, ds = [.lst xs, .lst ys] ∧ PL (zipD xs ys) e) : Ei g env (RZ.iZipA g.K ta) PL := fun c L σ H S R q =>
  h c L σ H S _ fun vs ds e H1 ⟨xs, ys, e0, p⟩ S1 l k r => by
    subst e0
    obtain ⟨x, y, rfl, r1, r2⟩ := two_rv r
    obtain ⟨a, us, rfl, _, h1, _⟩ := lst_rv r1
    obtain ⟨b, ws, rfl, _, h2, _⟩ := lst_rv r2
    exact ⟨a, b, us, ws, rfl, .inl ⟨.inl (.inl h1), .inl (.inl h2), q _ _ e H1 p S1 l k (wk_zip r1 r2)⟩⟩
end
end Wv
/-! small further rules -/
namespace Wv
open PySem L2 Evl
section
variable {k : Dt → Prop} {kl : List Dt → Prop} {ds es : List Dt} {kvs : List (Key × Dt)} {i j : Int} {z : Str}
theorem passF {P : Program} {w : World} {X : Cx} : Passes (L2.CX P w) X E0 := fun _ _ _ _ _ _ _ h => by
  obtain ⟨_, _, _, _, _, _, _, _, _, _, _, _, h⟩ := h
  exact h.elim
theorem eI {n : Int} {A : Int → Prop} (p : A n) : ∃ i, Dt.int n = Dt.int i ∧ A i := ⟨n, rfl, p⟩
theorem addI (p : k (.int (i + j))) : fAdd (.int i) (.int j) k := p
theorem jI {w : Int → Int → Dt} (p : k (w i j)) : fJ w (.int i) (.int j) k := p
theorem lenLst (p : k (.int ds.length)) : fLen [.lst ds] k := p
theorem lenTup (p : k (.int ds.length)) : fLen [.tup ds] k := p
theorem lenDct (p : k (.int kvs.length)) : fLen [.dct kvs] k := p
theorem lenStr (p : k (.int z.length)) : fLen [.str z] k := p
theorem slL {lo hi : Option Int} (p : k (.lst (ctD ds lo hi))) : fSl lo hi (.lst ds) k := p
theorem slT {lo hi : Option Int} (p : k (.tup (ctD ds lo hi))) : fSl lo hi (.tup ds) k := p
theorem slS {lo hi : Option Int} (p : k (.str (cutS z lo hi))) : fSl lo hi (.str z) k := p
theorem intI (p : k (.int i)) : fInt [.int i] k := p
theorem intB {b : Bool} (p : k (.int (if b then 1 else 0))) : fInt [.bl b] k := p
theorem itsL (p : kl ds) : itS (.lst ds) kl := p
theorem itsT (p : kl ds) : itS (.tup ds) kl := p
theorem itdL (p : kl ds) : itD (.lst ds) kl := p
theorem itdT (p : kl ds) : itD (.tup ds) kl := p
theorem kdI {kk : Key → Prop} (p : kk (.inl i)) : kD (.int i) kk := p
theorem kdS {kk : Key → Prop} (p : kk (.inr z)) : kD (.str z) kk := p
theorem exOwn {e : List Sl} {n : Nat} {d0 : Dt} {A : Dt → Prop} (h : e[n]? = some (Sl.own d0)) (p : A d0) : ∃ d, e[n]? = some (Sl.own d) ∧ A d := ⟨d0, h, p⟩
theorem exOwnD {e : List Sl} {n : Nat} {d0 : List (Key × Dt)} {A : List (Key × Dt) → Prop} (h : e[n]? = some (Sl.own (.dct d0))) (p : A d0) : ∃ d, e[n]? = some (Sl.own (.dct d)) ∧ A d := ⟨d0, h, p⟩
theorem exOwnL {e : List Sl} {n : Nat} {d0 : List Dt} {A : List Dt → Prop} (h : e[n]? = some (Sl.own (.lst d0))) (p : A d0) : ∃ d, e[n]? = some (Sl.own (.lst d)) ∧ A d := ⟨d0, h, p⟩
end
end Wv
/-! == and != of instances by the class's own __eq__ (its __ne__ is that of object). -/
namespace PySem.W
open PySem PySem.Calls PyProof.Rows Builtin
section
variable {prog : Program} {w : World} {A : Around} {E : Value → Shared → Prop} {s : Shared} {K : Frag} {x C f : Addr} {ox : Obj} {od : Option Obj} {b : Value}
theorem objNe_K (hu : A.units < cLine) (X : K.In s.heap) (I : InstAt s.heap x ox C od) (hs : findIn K (.ref C) "__eq__" = some (some (.ref f))) (hf : isFn K (.ref f) = true) {Q : Fin → Shared → Prop}
    (h : wpAny (model prog w) A (call (.ref f) [.ref x, b]) (fun v s' => ∃ r, v = .bool r ∧ Q (.done (.ret (.bool (!r)))) s') E s) : wpAny (model prog w) A (Builtin.«object.__ne__» ⟨[.ref x, b], []⟩) Q E s := by
  unfold Builtin.«object.__ne__»
  repeat (first
    | with_reducible refine wpAny_cRoomFor hu ?_
    | (refine wpAny_bind (m := callSpecialIfBound? (.ref x) (Str.ofString "__eq__") [b])
        (ifBound_K X I hs hf (wpAny_mono h (fun v s' hr => by
          obtain ⟨b, rfl, hq⟩ := hr
          repeat (first | exact hq | exact wpAny_pure hq | exact wpAny_truthy_bool hq | (refine wpAny_bind (m := truthy (.bool _)) (wpAny_truthy_bool ?_)) | wp_step)) fun _ _ e => e)))
    | wp_step)
theorem tryNe_K (hu : A.units + 1 < cLine) (X : K.In s.heap) (I : InstAt s.heap x ox C od) (hn : findIn K (.ref C) "__ne__" = some (some (.builtin "object.__ne__"))) (hm : mroIn K C (.type "object") = some true)
    (hs : findIn K (.ref C) "__eq__" = some (some (.ref f))) (hf : isFn K (.ref f) = true) {Q : Option Value → Shared → Prop}
    (h : wpAny (model prog w) A.in1 (call (.ref f) [.ref x, b]) (fun v s' => ∃ r, v = .bool r ∧ Q (some (.bool (!r))) s') E s) : wpAny (model prog w) A (tryCompare (.ref x) "__ne__" b) Q E s := by
  have FB := F.cmp_object
  have L0 := I.type (M := model prog w)
  have L1 := looks_mroIn (M := model prog w) X hm
  have sub : Looks (model prog w) s.heap (isInstance (.ref x) (.type "object")) true := fun A' Q' E' s' k q => by
    unfold isInstance
    exact wpAny_bind (L0 _ _ _ _ k (L1 _ _ _ _ k q))
  simp only [tryCompare]
  refine wpAny_bind ?_
  simp only [callSpecialIfBound?, bindSpecialIfBound?]
  refine wpAny_holding (wpAny_bind (wpAny_bind (wpAny_bind (I.type.here ((looks_findIn X hn).here ?_)))))
  simp only [FB.ne.bind]
  refine wpAny_bind (wpAny_askSetting (wpAny_ite ?_))
  have call1 : wpAny (model prog w) A (call (.builtin "object.__ne__") ([.ref x] ++ [b])) (fun v s' => ∃ r, v = .bool r ∧ Q (some (.bool r)) s') E s := by
    refine wpAny_call (codeAny_call_builtin FB.ne.plain F.cmpEntry_ne ?_)
    refine check_slot F.cmpKind_ne F.cmpSplit_ne sub (F.cmpArgs_ne _ _) ?_
    refine objNe_K (A := A.in1) hu X I hs hf (wpAny_mono h (fun v s' hv => ?_) fun _ _ e => e)
    obtain ⟨r, rfl, hq⟩ := hv
    exact ⟨r, rfl, !r, rfl, hq⟩
  split
  · refine wpAny_bind (wpAny_pure (wpAny_pure ?_))
    refine wpAny_bind (m := call (.builtin "object.__ne__") ([.ref x] ++ [b])) (wpAny_mono call1 (fun v s' hv => ?_) fun _ _ e => e)
    obtain ⟨r, rfl, hq⟩ := hv
    exact wpAny_pure (wpAny_pure hq)
  · refine wpAny_tryCatch (wpAny_bind (wpAny_pure (wpAny_pure ?_)))
    refine wpAny_bind (m := call (.builtin "object.__ne__") ([.ref x] ++ [b])) (wpAny_mono call1 (fun v s' hv => ?_) fun _ _ e => e)
    obtain ⟨r, rfl, hq⟩ := hv
    exact wpAny_pure (wpAny_pure hq)
theorem ne_K {Q : Value → Shared → Prop} (hu : A.units + 1 < cLine) (X : K.In s.heap) (I : InstAt s.heap x ox C od) (hb : Looks (model prog w) s.heap (typeOf b) (.ref C)) (hn : findIn K (.ref C) "__ne__" = some (some (.builtin "object.__ne__"))) (hm : mroIn K C (.type "object") = some true)
    (hs : findIn K (.ref C) "__eq__" = some (some (.ref f))) (hf : isFn K (.ref f) = true)
    (h : wpAny (model prog w) A.in1 (call (.ref f) [.ref x, b]) (fun v s' => ∃ r, v = .bool r ∧ Q (.bool (!r)) s') E s) : wpAny (model prog w) A (richCompare .NotEq (.ref x) b) Q E s := by
  unfold richCompare
  simp only [oneThing_ref]
  refine wpAny_holding (wpAny_bind (wpAny_cRoomFor (Nat.lt_of_succ_lt hu) ?_))
  rw [cmpInfo_NotEq]
  dsimp only
  refine wpAny_bind (I.type.here (wpAny_bind (hb.here ?_)))
  rw [show (Value.ref C != Value.ref C) = false from by simp]
  simp only [Bool.false_eq_true, if_false]
  refine wpAny_bind (wpAny_pure ?_)
  simp only [Bool.false_eq_true, if_false]
  refine wpAny_bind (tryNe_K hu X I hn hm hs hf (wpAny_mono h (fun v s' hv => ?_) fun _ _ e => e))
  obtain ⟨r, rfl, hq⟩ := hv
  first | exact ⟨r, rfl, wpAny_pure hq⟩ | exact ⟨r, rfl, wpAny_pure (wpAny_pure hq)⟩
end
end PySem.W

namespace Wv
open PySem PySem.Spec PyProof.Rows L2 Evl
/-- what the class at C must have: its own __eq__ at f, the __ne__ of object -/
structure OwnCmp (K : PySem.W.Frag) (C f : Addr) : Prop where
  eq : PySem.W.findIn K (.ref C) "__eq__" = some (some (.ref f))
  ne : PySem.W.findIn K (.ref C) "__ne__" = some (some (.builtin "object.__ne__"))
  fn : PySem.W.isFn K (.ref f) = true
  ob : PySem.W.mroIn K C (.type "object") = some true
def rOwn (neg : Bool) (C : Addr) (sp : Sp) : R2 := fun x y H Q => ∃ a b dx dy fs gs, x = .ref a ∧ y = .ref b ∧ H a = some (.ins C dx fs) ∧ H b = some (.ins C dy gs) ∧ sp [.ref a, .ref b] H (fun v H' => ∃ r, v = .bl r ∧ Q (.bl (if neg then !r else r)) H') E0
section
variable {X : Cx} {C f : Addr} {fd : FuncData} {ps : List Str} {sp : Sp} {n : Nat} {CX : CXT}
theorem own_run (F : FnOk X.prog X.w X.K X.mg X.base CX n f fd ps sp) (hb : Binds X.K fd ps []) (hx : Passes CX X E0) {A : Around} (hr : Room n A) (hA : A.frames = X.A.frames) {pins : List (Addr × Obj)} {σ : L2.St} {H : Hp} {s : Shared} (I : Inv X pins σ H s) {a b : Addr} {Q : VK} (h : sp [.ref a, .ref b] H Q E0) :
    wpAny (model X.prog X.w) A (call (.ref f) [.ref a, .ref b]) (EP X pins σ Q) X.xe s := by
  have e0 : Env0 X.prog X.w X.K X.mg X.base A X.stack s H := by
    have e := I.env0
    exact ⟨by rw [hA]; exact e.frames, e.mod, e.bs, e.bsz, e.funs, e.frf, e.hok, e.bare⟩
  have hl := F.len _ _ _ _ h
  have r2 : Vals [V.ref a, V.ref b] [Value.ref a, Value.ref b] := .cons rfl (.cons rfl .nil)
  refine wpAny_call (codeAny_mono (F.run A X.stack s H ⟨[.ref a, .ref b], []⟩ [.ref a, .ref b] [.ref a, .ref b] _ E0 hr e0 (by
    have := hb s [.ref a, .ref b] I.kIn (by simpa using hl)
    simpa using this) r2 h) fun r s' hq => ?_)
  cases r with
  | error e => exact hx pins σ H s e s' I hq
  | ok fl =>
    cases fl with
    | ret w => exact I.after hq
    | next => exact False.elim hq
    | brk => exact False.elim hq
    | cont => exact False.elim hq
theorem op_own (O : OwnCmp X.K C f) (F : FnOk X.prog X.w X.K X.mg X.base CX n f fd ps sp) (hb : Binds X.K fd ps []) (hx : Passes CX X E0) (hr : Room n X.A) : OpR X (compareOp .Eq) (rOwn false C sp) := by
  intro pins s σ H x y v u Q I rx ry h
  obtain ⟨a, b, dx, dy, fs, gs, rfl, rfl, ha, hb', hsp⟩ := h
  cases rx
  cases ry
  obtain ⟨mA, J, _⟩ := ins_get I.hok ha
  obtain ⟨mB, J', _⟩ := ins_get I.hok hb'
  obtain ⟨od, J, _⟩ := J.look
  obtain ⟨od', J', _⟩ := J'.look
  obtain ⟨m, hF⟩ := I.fr
  show wpAny (model X.prog X.w) X.A (richCompare .Eq (.ref a) (.ref b)) (EP X pins σ Q) X.xe s
  refine PySem.W.cmp_K (op := .Eq) (tb := .ref C) hr.units0 hF I.ok.mod.kin J J'.type (by simp [PySem.W.notFirst]) O.eq O.fn ?_
  refine wpAny_mono (own_run F hb hx hr rfl I hsp) (fun v s' hv => ?_) fun _ _ e => e
  obtain ⟨z, H', I', rz, r, rfl, q⟩ := hv
  cases rz
  exact ⟨.bl r, H', I', rfl, q⟩
theorem op_ownN (O : OwnCmp X.K C f) (F : FnOk X.prog X.w X.K X.mg X.base CX n f fd ps sp) (hb : Binds X.K fd ps []) (hx : Passes CX X E0) (hr : Room (n + 1) X.A) : OpR X (compareOp .NotEq) (rOwn true C sp) := by
  intro pins s σ H x y v u Q I rx ry h
  obtain ⟨a, b, dx, dy, fs, gs, rfl, rfl, ha, hb', hsp⟩ := h
  cases rx
  cases ry
  obtain ⟨mA, J, _⟩ := ins_get I.hok ha
  obtain ⟨mB, J', _⟩ := ins_get I.hok hb'
  obtain ⟨od, J, _⟩ := J.look
  obtain ⟨od', J', _⟩ := J'.look
  show wpAny (model X.prog X.w) X.A (richCompare .NotEq (.ref a) (.ref b)) (EP X pins σ Q) X.xe s
  refine PySem.W.ne_K (by have := hr.un; omega) I.kIn J J'.type O.ne O.ob O.eq O.fn ?_
  refine wpAny_mono (own_run F hb hx hr.in1 rfl I hsp) (fun v s' hv => ?_) fun _ _ e => e
  obtain ⟨z, H', I', rz, r, rfl, q⟩ := hv
  cases rz
  exact ⟨r, rfl, .bl (!r), H', I', rfl, q⟩
end
section
variable {g : Gx} {env : List Sl} {ta tb : TE} {P : Dt → List Sl → Prop}
theorem et_own2 {R : Rd3} {lk neg : Bool} {C : Addr} (hlk : lkle lk g.lk) (h : Et g env ta fun d e1 => Et g e1 tb fun e e2 => ∃ fs gs, d = .ins C fs ∧ e = .ins C gs ∧ R [d, e] (fun t => ∃ r, t = .bl r ∧ P (.bl (if neg then !r else r)) e2) fun _ _ => False) : Et g env (tOp (rOwn neg C (spW g.K lk R)) ta tb) P := fun c L σ H S Q q =>
  h c L σ H S _ fun x d env1 H1 p1 S1 l1 k1 r1 => p1 c L σ H1 S1 _ fun y e env2 H2 ⟨fs, gs, e1, e2, p2⟩ S2 l2 k2 r2 => by
    have r1' := (S1.kp r1 k2).mono (Av.le l2)
    subst e1 e2
    have rs := Rvs.cons r1' (Rvs.cons r2 Rvs.nil)
    cases r1' with
    | ins ho h0 hk he =>
      cases r2 with
      | ins ho' h0' hk' he' =>
        refine ⟨_, _, _, _, _, _, rfl, rfl, h0, h0', c.so, c.cc, Av c σ env2, _, _, _, Hb.av S2, rs, p2, fun x d H' ⟨r, ed, pd⟩ hb rr => ?_, Lk.none⟩
        subst ed
        cases rr with
        | bl _ => exact ⟨r, rfl, q _ _ env2 H' pd (S2.call (by rw [← L.1]; exact hlk) hb).1 (l1.trans l2) ((k1.trans (k2.le l1)).trans ((S2.call (by rw [← L.1]; exact hlk) hb).2.le (l1.trans l2))) (.bl _)⟩
end
end Wv
/-! isinstance with own classes, of own instances -/
namespace Wv
open PySem PySem.Spec PyProof.Rows L2 Evl
def bTys : List String := ["NoneType", "bool", "int", "str", "list", "tuple", "dict"]
/-- the class at C, an own one: what isinstance asks -/
structure OwnI (K : PySem.W.Frag) (C : Addr) : Prop where
  ci : ((PySem.W.clsIn K C).isSome && PySem.W.typeIn K (.ref C) == some (.type "type")) = true
  un : (bTys.all fun n => decide (PySem.W.mroIn K C (.type n) = some false)) = true
  ha : PySem.W.findIn K (.ref C) "__class__" = some (some (.builtin "object.__class__"))
  hn : PySem.W.specialIn K (.builtin "object.__class__") "__get__" = some (some (.builtin "getset_descriptor.__get__"))
  htk : PySem.W.takesIn K (.builtin "object.__class__") = some true
  hm : PySem.W.mroIn K C (.type "object") = some true
section
variable {K : PySem.W.Frag}
theorem no_ref (C : Addr) : ∀ l : List String, (l.map Value.type).contains (Value.ref C) = false
  | [] => rfl
  | a :: l => by
    rw [List.map_cons, List.contains_cons, no_ref C l]
    rfl
theorem bty_no (C : Addr) : ∀ n ∈ bTys, PySem.W.subIn K (.type n) (.ref C) = some false := by
  have : ∀ n ∈ bTys, ∃ l : List String, fastBuiltinMro n = some (l.map Value.type) := by
    intro n hn
    simp only [bTys, List.mem_cons, List.not_mem_nil, or_false] at hn
    rcases hn with rfl | rfl | rfl | rfl | rfl | rfl | rfl
    · exact ⟨["NoneType", "object"], by kernel_rfl⟩
    · exact ⟨["bool", "int", "object"], by kernel_rfl⟩
    · exact ⟨["int", "object"], by kernel_rfl⟩
    · exact ⟨["str", "object"], by kernel_rfl⟩
    · exact ⟨["list", "object"], by kernel_rfl⟩
    · exact ⟨["tuple", "object"], by kernel_rfl⟩
    · exact ⟨["dict", "object"], by kernel_rfl⟩
  intro n hn
  obtain ⟨l, e⟩ := this n hn
  show (fastBuiltinMro n).map (·.contains (.ref C)) = some false
  rw [e]
  exact congrArg some (no_ref C l)
theorem kit_no {C : Addr} (O : OwnI K C) {n : String} (hn : n ∈ bTys) : PySem.W.kitOne K (.type n) (.ref C) = some false := by
  unfold PySem.W.kitOne
  rw [if_neg (show ¬ (Value.type n == Value.ref C) = true from fun z => by cases (show (Value.type n == Value.ref C) = false from rfl).symm.trans z)]
  unfold PySem.W.kitCls
  dsimp only
  rw [if_pos O.ci]
  exact bty_no C n hn
theorem kit_yes (C : Addr) : PySem.W.kitOne K (.ref C) (.ref C) = some true := by
  unfold PySem.W.kitOne
  rw [if_pos (by simp)]
theorem kitM : ∀ n ∈ bTys, PySem.W.kitMeta n = true := List.all_eq_true.mp (show (bTys.all PySem.W.kitMeta) = true by decide +kernel)
theorem kit_un {C : Addr} (O : OwnI K C) {n : String} (hn : n ∈ bTys) : PySem.W.kitOne K (.ref C) (.type n) = some false := by
  unfold PySem.W.kitOne
  rw [if_neg (show ¬ (Value.ref C == Value.type n) = true from fun z => by cases (show (Value.ref C == Value.type n) = false from rfl).symm.trans z)]
  unfold PySem.W.kitCls
  dsimp only
  rw [if_pos (kitM n hn)]
  exact of_decide_eq_true (List.all_eq_true.mp O.un n hn)
theorem kit_unT {C : Addr} (O : OwnI K C) : ∀ ns : List String, (∀ n ∈ ns, n ∈ bTys) → PySem.W.kitAny K (.ref C) (ns.map Value.type) = some false
  | [], _ => rfl
  | n :: ns, h => by
    rw [List.map_cons]
    unfold PySem.W.kitAny
    rw [kit_un O (h n (List.mem_cons_self ..))]
    exact kit_unT O ns fun m hm => h m (List.mem_cons_of_mem _ hm)
theorem ty_ins {so : Option Addr} {O : Addr → Prop} {H : Hp} {x : V} {C : Addr} {fs : List (Str × Dt)} (cl : Cls K C) (I : OwnI K C) (r : Rv so O H x (.ins C fs)) : TyX K H x (.ref C) := by
  cases r with
  | ins ho h => exact .base (.ins h cl I.ha I.hn I.htk I.hm)
/-- an instance of the class at C -/
def isO : Dt → Bool
  | .ins _ _ => true
  | _ => false
/-- what may be asked for the class at C: data, and its own instances -/
def okO (C : Addr) (d : Dt) : Prop := (tyD d).isSome = true ∨ ∃ fs, d = .ins C fs
theorem ty_mem {d : Dt} {t : String} (h : tyD d = some t) : t ∈ bTys := by
  cases d <;> first | (cases h; decide) | cases h
end
section
variable {g : Gx} {env : List Sl} {te : TE} {P : Dt → List Sl → Prop}
theorem et_isOwn {C : Addr} (cl : Cls g.K C) (I : OwnI g.K C) (h : Et g env te fun d e => okO C d ∧ P (.bl (isO d)) e) : Et g env (tCB (rIsU g.K) (tCons te (tCons (tC (.ref C)) tNil))) P := fun c L σ H S Q q =>
  h c L σ H S _ fun x d e H1 ⟨ht, p⟩ S1 l k r => by
    rcases ht with ht | ⟨fs, rfl⟩
    · obtain ⟨t, ht⟩ := Option.isSome_iff_exists.mp ht
      have ef : isO d = false := by cases d <;> first | rfl | cases ht
      rw [ef] at p
      exact .inl ⟨x, .ref C, .type t, .ref C, false, rfl, .own C, .base (ty_rv r ht), kit_no I (ty_mem ht), q _ _ e H1 p S1 l k (.bl _)⟩
    · exact .inl ⟨x, .ref C, .ref C, .ref C, true, rfl, .own C, .base (ty_ins cl I r), kit_yes C, q _ _ e H1 p S1 l k (.bl _)⟩
/-- isinstance of an own instance with a built-in class -/
theorem et_isIns {C : Addr} {n : String} (cl : Cls g.K C) (I : OwnI g.K C) (hn : n ∈ bTys) (h : Et g env te fun d e => (∃ fs, d = .ins C fs) ∧ P (.bl false) e) : Et g env (tCB (rIsU g.K) (tCons te (tCons (tC (.ty n)) tNil))) P := fun c L σ H S Q q =>
  h c L σ H S _ fun x d e H1 ⟨⟨fs, ed⟩, p⟩ S1 l k r => by
    subst ed
    exact .inl ⟨x, .ty n, .ref C, .type n, false, rfl, .ty n, .base (ty_ins cl I r), kit_un I hn, q _ _ e H1 p S1 l k (.bl _)⟩
theorem et_isInsT {C : Addr} (ns : List String) (cl : Cls g.K C) (I : OwnI g.K C) (hns : ∀ n ∈ ns, n ∈ bTys) (hl : ns.length ≤ 100) (h : Et g env te fun d e => (∃ fs, d = .ins C fs) ∧ P (.bl false) e) : Et g env (tCB (rIsU g.K) (tCons te (tCons (tTup (tC2 ns)) tNil))) P := fun c L σ H S Q q =>
  h c L σ H S _ fun x d e H1 ⟨⟨fs, ed⟩, p⟩ S1 l k r => by
    subst ed
    have run : ∀ (ns : List String) (Q : List V → Hp → Prop), Q (ns.map V.ty) H1 → tC2 ns σ H1 Q := fun ns => by
      induction ns with
      | nil => exact fun Q q => q
      | cons n r ih => exact fun Q q => ih _ q
    refine run ns _ ⟨sz_of (by rw [List.length_map]; omega), fun tp hp => ?_⟩
    exact .inr ⟨x, tp, _, .ref C, _, false, rfl, upd_same, clsv_tys ns, .base (ty_ins cl I (r.ex (Ex.new hp))), kit_unT I ns hns, q _ _ e _ p (S1.ex (Ex.new hp)) l (k.trans (Ko.new hp)) (.bl _)⟩
end
end Wv
/-! further facts of the head: own classes, errors told apart, the law's table of code objects -/
namespace Lw
open PySem PySem.Spec PyProof.Rows L2
def ownIB (K : PySem.W.Frag) (C : Addr) : Bool := ((PySem.W.clsIn K C).isSome && PySem.W.typeIn K (.ref C) == some (.type "type")) && ((Wv.bTys.all fun n => decide (PySem.W.mroIn K C (.type n) = some false)) &&
  (He.eqO (PySem.W.findIn K (.ref C) "__class__") (some (some (.builtin "object.__class__"))) && (He.eqO (PySem.W.specialIn K (.builtin "object.__class__") "__get__") (some (some (.builtin "getset_descriptor.__get__"))) && (decide (PySem.W.takesIn K (.builtin "object.__class__") = some true) && decide (PySem.W.mroIn K C (.type "object") = some true)))))
theorem ownIB_ok {K : PySem.W.Frag} {C : Addr} (h : ownIB K C = true) : Wv.OwnI K C := by
  obtain ⟨h1, h⟩ := He.ba h
  obtain ⟨h2, h⟩ := He.ba h
  obtain ⟨h3, h⟩ := He.ba h
  obtain ⟨h4, h⟩ := He.ba h
  obtain ⟨h5, h6⟩ := He.ba h
  exact ⟨h1, h2, He.eqO_ok h3, He.eqO_ok h4, of_decide_eq_true h5, of_decide_eq_true h6⟩
def ownCB (K : PySem.W.Frag) (C f : Addr) : Bool := He.eqO (PySem.W.findIn K (.ref C) "__eq__") (some (some (.ref f))) && (He.eqO (PySem.W.findIn K (.ref C) "__ne__") (some (some (.builtin "object.__ne__"))) && (PySem.W.isFn K (.ref f) && decide (PySem.W.mroIn K C (.type "object") = some true)))
theorem ownCB_ok {K : PySem.W.Frag} {C f : Addr} (h : ownCB K C f = true) : Wv.OwnCmp K C f := by
  obtain ⟨h1, h⟩ := He.ba h
  obtain ⟨h2, h⟩ := He.ba h
  obtain ⟨h3, h4⟩ := He.ba h
  exact ⟨He.eqO_ok h1, He.eqO_ok h2, h3, of_decide_eq_true h4⟩
/-- own errors are told apart -/
def kxB (K : PySem.W.Frag) (xs : List Addr) : Bool := (List.range xs.length).all fun i => (List.range xs.length).all fun j => decide (PySem.W.kitOne K (.ref (xs.getD i 0)) (.ref (xs.getD j 0)) = some (decide (i = j)))
theorem kxB_ok {K : PySem.W.Frag} {xs : List Addr} (h : kxB K xs = true) : ∀ (i j : Nat) (C D : Addr), xs[i]? = some C → xs[j]? = some D → PySem.W.kitOne K (.ref C) (.ref D) = some (decide (i = j)) := fun i j C D h1 h2 => by
  have l1 := (List.getElem?_eq_some_iff.mp h1).1
  have l2 := (List.getElem?_eq_some_iff.mp h2).1
  have := of_decide_eq_true (List.all_eq_true.mp (List.all_eq_true.mp h i (List.mem_range.mpr l1)) j (List.mem_range.mpr l2))
  rw [List.getD_eq_getElem?_getD, List.getD_eq_getElem?_getD, h1, h2] at this
  exact this
def nxB (K : PySem.W.Frag) (xs : List Addr) (N : Addr) : Bool := xs.all fun C => decide (PySem.W.exmOne K (.ref C) (.ref N) = some true)
theorem nxB_ok {K : PySem.W.Frag} {xs : List Addr} {N : Addr} (h : nxB K xs N = true) : ∀ C ∈ xs, PySem.W.exmOne K (.ref C) (.ref N) = some true := fun C hC => of_decide_eq_true (List.all_eq_true.mp h C hC)
/-! ### the Hook with tables -/
def obsYG (n : Nat) (fa : List He.Fa) (fn : List He.DefD) (xb : PySem.W.Frag → Bool) (xs : List Str) (tf : List He.Defn) (g : Addr → Option Obj) : AlX :=
  let K := He.frT g (asX g n)
  obsX fa fn (fun K => xb K && He.tabsB g tf K) xs K
structure SaysY (fa : List He.Fa) (fn : List He.DefD) (xb : PySem.W.Frag → Bool) (xs : List Str) (vs : List ExV) (tf : List He.Defn) (h : Heap) (K : PySem.W.Frag) : Prop where
  x : obsX fa fn xb xs K = valX fn vs
  hd : ∀ p ∈ tf, PySem.W.codeHdIn K (He.cT K p).1 (He.cT K p).2 = true
  out : ∀ p ∈ tf, K.lookup (He.cT K p).2 = none
  empty : ∀ p ∈ tf, h.get? (He.cT K p).2 = some { cls := .none, data := .fields #[] }
theorem saysY_of {n : Nat} {fa : List He.Fa} {fn : List He.DefD} {xb : PySem.W.Frag → Bool} {xs : List Str} {vs : List ExV} {tf : List He.Defn} {h : Heap} (e : obsYG n fa fn xb xs tf h.get? = valX fn vs) : SaysY fa fn xb xs vs tf h (He.frT h.get? (asX h.get? n)) := by
  have e1 : He.obsD fa fn (He.frT h.get? (asX h.get? n)) = He.valD fn := congrArg (fun z : AlX => z.1) e
  have e2 : (xb (He.frT h.get? (asX h.get? n)) && He.tabsB h.get? tf (He.frT h.get? (asX h.get? n))) = true := congrArg (fun z : AlX => z.2.1) e
  have e3 : (xs.map fun x => exAt (He.frT h.get? (asX h.get? n)) (He.ma (He.frT h.get? (asX h.get? n)) (He.ga (He.frT h.get? (asX h.get? n)) x) "__init__")) = vs := congrArg (fun z : AlX => z.2.2) e
  obtain ⟨h1, h2⟩ := He.ba e2
  have key : ∀ p ∈ tf, PySem.W.codeHdIn (He.frT h.get? (asX h.get? n)) (He.cT (He.frT h.get? (asX h.get? n)) p).1 (He.cT (He.frT h.get? (asX h.get? n)) p).2 = true ∧ ∃ o, h.get? (He.cT (He.frT h.get? (asX h.get? n)) p).2 = some o ∧ He.emptyTab o = true := fun p hp => by
    obtain ⟨h3, h4⟩ := He.ba (List.all_eq_true.mp h2 p hp)
    refine ⟨h3, ?_⟩
    cases q : h.get? (He.cT (He.frT h.get? (asX h.get? n)) p).2 with
    | none =>
      rw [q] at h4
      cases h4
    | some o =>
      rw [q] at h4
      exact ⟨o, rfl, h4⟩
  refine ⟨?_, fun p hp => (key p hp).1, fun p hp => ?_, fun p hp => ?_⟩
  · show (He.obsD fa fn _, xb _, _) = (He.valD fn, true, vs)
    rw [e1, h1, e3]
  · obtain ⟨_, o, q, z⟩ := key p hp
    exact He.frT_none q z
  · obtain ⟨_, o, q, z⟩ := key p hp
    rw [q, He.emptyTab_eq z]
def hookY (n : Nat) (fa : List He.Fa) (fn : List He.DefD) (xb : PySem.W.Frag → Bool) (xs : List Str) (vs : List ExV) (tf : List He.Defn) : PySem.W.Hook where
  α := AlX
  obs := fun s => obsYG n fa fn xb xs tf s.heap.get?
  val := fun _ => valX fn vs
  says := fun _ h => ∃ K : PySem.W.Frag, K.In h ∧ SaysY fa fn xb xs vs tf h K
  of := fun _ _ e => ⟨_, He.frT_in, saysY_of e⟩
  keeps := fun _ _ _ ⟨K, hK, c⟩ k => ⟨K, PySem.W.Frag.In.keeps hK k, ⟨c.x, c.hd, c.out, fun p hp => k _ _ (c.empty p hp)⟩⟩
theorem obsYG_eq {n : Nat} {fa : List He.Fa} {fn : List He.DefD} {xb : PySem.W.Frag → Bool} {xs : List Str} {vs : List ExV} {tf : List He.Defn} {g : Addr → Option Obj} {s : Shared} (h : ∀ a, g a = s.heap.get? a) : obsYG n fa fn xb xs tf g = (hookY n fa fn xb xs vs tf).obs s := by
  have e : g = s.heap.get? := funext h
  rw [e] <;> rfl
/-- a def's code object, of its facts -/
theorem code_of {K : PySem.W.Frag} {x qual : Str} {params : Arguments} {body : List Stmt} {scope : Scope} {dvs : List V} {kws : List (Str × V)} {p : Str × Option Str} {fd : FuncData} (F : FunD K x qual params body scope dvs kws (He.fAd K p) fd) : fd.code = .ref (He.cT K p).1 := by
  obtain ⟨oc, od, dV, kV, doc, pm, an, cdv, ct, osl, e, lk, hcd, _, _⟩ := F.ex
  have ec : fd.code = cdv := by
    rw [e]
    try rfl
  obtain ⟨c, rfl⟩ := He.codeIn_ref hcd
  rw [ec]
  exact congrArg Value.ref (He.codeOf_eq lk ec).symm
end Lw
namespace Lw
open PySem PySem.Spec PyProof.Rows L2 Evl Wv
def top (i : Nat) : Stmt := PySem.Challenge.pw_laternets_k03_nets_refused.main.body.getD i (.Pass ⟨0, 0, 0, 0⟩)
abbrev s__wall : Stmt := top 0
theorem sc__wall : FnScope ["k"] ["k"] (defScope s__wall) := ⟨rfl, rfl, rfl, by decide +kernel, rfl, by decide +kernel, by decide +kernel⟩
abbrev s_is_integer : Stmt := top 25
theorem sc_is_integer : FnScope ["thing"] ["thing"] (defScope s_is_integer) := ⟨rfl, rfl, rfl, by decide +kernel, rfl, by decide +kernel, by decide +kernel⟩
abbrev s_is_list : Stmt := top 26
theorem sc_is_list : FnScope ["thing"] ["thing"] (defScope s_is_list) := ⟨rfl, rfl, rfl, by decide +kernel, rfl, by decide +kernel, by decide +kernel⟩
abbrev s_is_word : Stmt := top 27
theorem sc_is_word : FnScope ["thing", "sign"] ["thing"] (defScope s_is_word) := ⟨rfl, rfl, rfl, by decide +kernel, rfl, by decide +kernel, by decide +kernel⟩
abbrev s_is_ground : Stmt := top 28
theorem sc_is_ground : FnScope ["thing", "part"] ["thing"] (defScope s_is_ground) := ⟨rfl, rfl, rfl, by decide +kernel, rfl, by decide +kernel, by decide +kernel⟩
abbrev s_as_term : Stmt := top 29
theorem sc_as_term : FnScope ["thing", "part"] ["thing"] (defScope s_as_term) := ⟨rfl, rfl, rfl, by decide +kernel, rfl, by decide +kernel, by decide +kernel⟩
abbrev s_term_text : Stmt := top 30
theorem sc_term_text : FnScope ["term", "part"] ["term"] (defScope s_term_text) := ⟨rfl, rfl, rfl, by decide +kernel, rfl, by decide +kernel, by decide +kernel⟩
abbrev s_Table_init : Stmt := inClass (top 31) 0
theorem sc_Table_init : FnScope ["self"] ["self"] (defScope s_Table_init) := ⟨rfl, rfl, rfl, by decide +kernel, rfl, by decide +kernel, by decide +kernel⟩
abbrev s_Table_number : Stmt := inClass (top 31) 1
theorem sc_Table_number : FnScope ["self", "key", "size", "latest", "part"] ["self", "key"] (defScope s_Table_number) := ⟨rfl, rfl, rfl, by decide +kernel, rfl, by decide +kernel, by decide +kernel⟩
abbrev s_Table_ground : Stmt := inClass (top 31) 2
theorem sc_Table_ground : FnScope ["self", "term", "part"] ["self", "term"] (defScope s_Table_ground) := ⟨rfl, rfl, rfl, by decide +kernel, rfl, by decide +kernel, by decide +kernel⟩
abbrev s_Table_term : Stmt := inClass (top 31) 3
theorem sc_Table_term : FnScope ["self", "number", "key", "part"] ["self", "number"] (defScope s_Table_term) := ⟨rfl, rfl, rfl, by decide +kernel, rfl, by decide +kernel, by decide +kernel⟩
abbrev s_is_wire : Stmt := top 36
theorem sc_is_wire : FnScope ["thing", "boxes", "term"] ["thing", "boxes"] (defScope s_is_wire) := ⟨rfl, rfl, rfl, by decide +kernel, rfl, by decide +kernel, by decide +kernel⟩
abbrev s_as_wire : Stmt := top 37
theorem sc_as_wire : FnScope ["thing", "term"] ["thing"] (defScope s_as_wire) := ⟨rfl, rfl, rfl, by decide +kernel, rfl, by decide +kernel, by decide +kernel⟩
abbrev s_is_box : Stmt := top 38
theorem sc_is_box : FnScope ["thing", "boxes", "wires_of", "wire"] ["thing", "boxes", "wires_of"] (defScope s_is_box) := ⟨rfl, rfl, rfl, by decide +kernel, rfl, by decide +kernel, by decide +kernel⟩
abbrev s_as_box : Stmt := top 39
theorem sc_as_box : FnScope ["thing", "wire"] ["thing"] (defScope s_as_box) := ⟨rfl, rfl, rfl, by decide +kernel, rfl, by decide +kernel, by decide +kernel⟩
abbrev s_copied_box : Stmt := top 40
theorem sc_copied_box : FnScope ["box", "wire"] ["box"] (defScope s_copied_box) := ⟨rfl, rfl, rfl, by decide +kernel, rfl, by decide +kernel, by decide +kernel⟩
abbrev s_copied_wire : Stmt := top 41
theorem sc_copied_wire : FnScope ["wire"] ["wire"] (defScope s_copied_wire) := ⟨rfl, rfl, rfl, by decide +kernel, rfl, by decide +kernel, by decide +kernel⟩
abbrev s_wires_of_box : Stmt := top 42
theorem sc_wires_of_box : FnScope ["box"] ["box"] (defScope s_wires_of_box) := ⟨rfl, rfl, rfl, by decide +kernel, rfl, by decide +kernel, by decide +kernel⟩
abbrev s_checked_boxes : Stmt := top 43
theorem sc_checked_boxes : FnScope ["boxes", "name", "names", "wires_of", "found"] ["boxes"] (defScope s_checked_boxes) := ⟨rfl, rfl, rfl, by decide +kernel, rfl, by decide +kernel, by decide +kernel⟩
abbrev s_checked_outputs : Stmt := top 44
theorem sc_checked_outputs : FnScope ["outputs", "boxes", "found", "name"] ["outputs", "boxes"] (defScope s_checked_outputs) := ⟨rfl, rfl, rfl, by decide +kernel, rfl, by decide +kernel, by decide +kernel⟩
abbrev s_order_of : Stmt := top 45
theorem sc_order_of : FnScope ["boxes", "found", "left", "many", "name", "wire"] ["boxes"] (defScope s_order_of) := ⟨rfl, rfl, rfl, by decide +kernel, rfl, by decide +kernel, by decide +kernel⟩
abbrev s_reached : Stmt := top 46
theorem sc_reached : FnScope ["boxes", "start", "holds_nothing", "found", "waiting", "box", "firsts"] ["boxes", "start", "holds_nothing"] (defScope s_reached) := ⟨rfl, rfl, rfl, by decide +kernel, rfl, by decide +kernel, by decide +kernel⟩
abbrev s_Net_init : Stmt := inClass (top 47) 0
theorem sc_Net_init : FnScope ["self", "boxes", "outputs", "name"] ["self", "boxes", "outputs"] (defScope s_Net_init) := ⟨rfl, rfl, rfl, by decide +kernel, rfl, by decide +kernel, by decide +kernel⟩
abbrev s_Net_eq : Stmt := inClass (top 47) 1
theorem sc_Net_eq : FnScope ["self", "other"] ["self", "other"] (defScope s_Net_eq) := ⟨rfl, rfl, rfl, by decide +kernel, rfl, by decide +kernel, by decide +kernel⟩
abbrev s_Net_boxes : Stmt := inClass (top 47) 2
theorem sc_Net_boxes : FnScope ["self", "name"] ["self"] (defScope s_Net_boxes) := ⟨rfl, rfl, rfl, by decide +kernel, rfl, by decide +kernel, by decide +kernel⟩
abbrev s_Net_outputs : Stmt := inClass (top 47) 3
theorem sc_Net_outputs : FnScope ["self", "name"] ["self"] (defScope s_Net_outputs) := ⟨rfl, rfl, rfl, by decide +kernel, rfl, by decide +kernel, by decide +kernel⟩
abbrev s_Net_counting : Stmt := inClass (top 47) 4
theorem sc_Net_counting : FnScope ["self"] ["self"] (defScope s_Net_counting) := ⟨rfl, rfl, rfl, by decide +kernel, rfl, by decide +kernel, by decide +kernel⟩
abbrev s_Net_is_plain : Stmt := inClass (top 47) 5
theorem sc_Net_is_plain : FnScope ["self"] ["self"] (defScope s_Net_is_plain) := ⟨rfl, rfl, rfl, by decide +kernel, rfl, by decide +kernel, by decide +kernel⟩
abbrev s_Net_ahead : Stmt := inClass (top 47) 6
theorem sc_Net_ahead : FnScope ["self"] ["self"] (defScope s_Net_ahead) := ⟨rfl, rfl, rfl, by decide +kernel, rfl, by decide +kernel, by decide +kernel⟩
abbrev s_Net_term : Stmt := inClass (top 47) 7
theorem sc_Net_term : FnScope ["self", "box", "t"] ["self", "box", "t"] (defScope s_Net_term) := ⟨rfl, rfl, rfl, by decide +kernel, rfl, by decide +kernel, by decide +kernel⟩
abbrev s_Net_shown : Stmt := inClass (top 47) 8
theorem sc_Net_shown : FnScope ["self", "output", "t"] ["self", "output", "t"] (defScope s_Net_shown) := ⟨rfl, rfl, rfl, by decide +kernel, rfl, by decide +kernel, by decide +kernel⟩
abbrev s_Net_told_term : Stmt := inClass (top 47) 9
theorem sc_Net_told_term : FnScope ["self", "wire", "t", "table", "number"] ["self", "wire", "t"] (defScope s_Net_told_term) := ⟨rfl, rfl, rfl, by decide +kernel, rfl, by decide +kernel, by decide +kernel⟩
abbrev s_Net_played : Stmt := inClass (top 47) 10
theorem sc_Net_played : FnScope ["self", "meaning", "t"] ["self", "meaning", "t"] (defScope s_Net_played) := ⟨rfl, rfl, rfl, by decide +kernel, rfl, by decide +kernel, by decide +kernel⟩
abbrev s_Net_text : Stmt := inClass (top 47) 11
theorem sc_Net_text : FnScope ["self", "lines", "name", "box", "wire", "line"] ["self"] (defScope s_Net_text) := ⟨rfl, rfl, rfl, by decide +kernel, rfl, by decide +kernel, by decide +kernel⟩
abbrev s_checked_time : Stmt := top 48
theorem sc_checked_time : FnScope ["t"] ["t"] (defScope s_checked_time) := ⟨rfl, rfl, rfl, by decide +kernel, rfl, by decide +kernel, by decide +kernel⟩
abbrev s_Values_init : Stmt := inClass (top 49) 0
theorem sc_Values_init : FnScope ["self", "net", "table"] ["self", "net", "table"] (defScope s_Values_init) := ⟨rfl, rfl, rfl, by decide +kernel, rfl, by decide +kernel, by decide +kernel⟩
abbrev s_Values_start_number : Stmt := inClass (top 49) 1
theorem sc_Values_start_number : FnScope ["self", "term"] ["self", "term"] (defScope s_Values_start_number) := ⟨rfl, rfl, rfl, by decide +kernel, rfl, by decide +kernel, by decide +kernel⟩
abbrev s_Values_came : Stmt := inClass (top 49) 2
theorem sc_Values_came : FnScope ["self", "word", "t"] ["self", "word", "t"] (defScope s_Values_came) := ⟨rfl, rfl, rfl, by decide +kernel, rfl, by decide +kernel, by decide +kernel⟩
abbrev s_Values_given : Stmt := inClass (top 49) 3
theorem sc_Values_given : FnScope ["self", "wire", "t", "box", "firsts"] ["self", "wire", "t"] (defScope s_Values_given) := ⟨rfl, rfl, rfl, by decide +kernel, rfl, by decide +kernel, by decide +kernel⟩
abbrev s_Values_adds_row : Stmt := inClass (top 49) 4
theorem sc_Values_adds_row : FnScope ["self", "t", "row", "name", "box", "parts", "wire"] ["self"] (defScope s_Values_adds_row) := ⟨rfl, rfl, rfl, by decide +kernel, rfl, by decide +kernel, by decide +kernel⟩
abbrev s_Values_given_now : Stmt := inClass (top 49) 5
theorem sc_Values_given_now : FnScope ["self", "wire", "t", "row", "box", "firsts"] ["self", "wire", "t", "row"] (defScope s_Values_given_now) := ⟨rfl, rfl, rfl, by decide +kernel, rfl, by decide +kernel, by decide +kernel⟩
abbrev s_wire_text : Stmt := top 50
theorem sc_wire_text : FnScope ["wire", "term"] ["wire"] (defScope s_wire_text) := ⟨rfl, rfl, rfl, by decide +kernel, rfl, by decide +kernel, by decide +kernel⟩
abbrev s_fresh : Stmt := top 52
theorem sc_fresh : FnScope ["_law_script"] ["_law_script"] (defScope s_fresh) := ⟨rfl, rfl, rfl, by decide +kernel, rfl, by decide +kernel, by decide +kernel⟩
abbrev s_fill : Stmt := top 53
theorem sc_fill : FnScope ["_law_state", "_law_cells", "_law_nth", "_law_seed", "_law_k", "_law_prime", "_law_far"] ["_law_state"] (defScope s_fill) := ⟨rfl, rfl, rfl, by decide +kernel, rfl, by decide +kernel, by decide +kernel⟩
abbrev s_take : Stmt := top 54
theorem sc_take : FnScope ["_law_state", "_law_many", "_law_laps", "_law_digit"] ["_law_state", "_law_many"] (defScope s_take) := ⟨rfl, rfl, rfl, by decide +kernel, rfl, by decide +kernel, by decide +kernel⟩
abbrev s_one : Stmt := top 55
theorem sc_one : FnScope ["_law_state", "_law_things"] ["_law_state", "_law_things"] (defScope s_one) := ⟨rfl, rfl, rfl, by decide +kernel, rfl, by decide +kernel, by decide +kernel⟩
abbrev s_mix : Stmt := top 56
theorem sc_mix : FnScope ["_law_state", "_law_things", "_law_left", "_law_found"] ["_law_state", "_law_things"] (defScope s_mix) := ⟨rfl, rfl, rfl, by decide +kernel, rfl, by decide +kernel, by decide +kernel⟩
abbrev s_same : Stmt := top 57
theorem sc_same : FnScope ["_law_found", "_law_due", "_law_a", "_law_b"] ["_law_found", "_law_due"] (defScope s_same) := ⟨rfl, rfl, rfl, by decide +kernel, rfl, by decide +kernel, by decide +kernel⟩
abbrev s_tried : Stmt := top 58
theorem sc_tried : FnScope ["_law_deed", "_law_e"] ["_law_deed"] (defScope s_tried) := ⟨rfl, rfl, rfl, by decide +kernel, rfl, by decide +kernel, by decide +kernel⟩
abbrev s_error : Stmt := top 59
theorem sc_error : FnScope ["_law_e"] ["_law_e"] (defScope s_error) := ⟨rfl, rfl, rfl, by decide +kernel, rfl, by decide +kernel, by decide +kernel⟩
abbrev s_other_error : Stmt := top 60
theorem sc_other_error : FnScope ["_law_e"] ["_law_e"] (defScope s_other_error) := ⟨rfl, rfl, rfl, by decide +kernel, rfl, by decide +kernel, by decide +kernel⟩
abbrev s_arity : Stmt := top 61
theorem sc_arity : FnScope ["_law_f"] ["_law_f"] (defScope s_arity) := ⟨rfl, rfl, rfl, by decide +kernel, rfl, by decide +kernel, by decide +kernel⟩
abbrev s_starts : Stmt := top 62
theorem sc_starts : FnScope ["_law_state", "_law_many", "_law_is_plain", "_law_found", "_law_k", "_law_word", "_law_some"] ["_law_state", "_law_many", "_law_is_plain"] (defScope s_starts) := ⟨rfl, rfl, rfl, by decide +kernel, rfl, by decide +kernel, by decide +kernel⟩
abbrev s_names : Stmt := top 63
theorem sc_names : FnScope ["_law_state", "_law_many"] ["_law_state", "_law_many"] (defScope s_names) := ⟨rfl, rfl, rfl, by decide +kernel, rfl, by decide +kernel, by decide +kernel⟩
abbrev s_drawn : Stmt := top 64
theorem sc_drawn : FnScope ["_law_state", "_law_ops", "_law_most", "_law_is_plain", "_law_names_here", "_law_boxes", "_law_outputs", "_law_ins", "_law_name", "_law_x", "_law_row", "_law_at", "_law_some", "_law_f", "_law_wires_here", "_law_k", "_law_to", "_law_held"] ["_law_state", "_law_ops", "_law_most", "_law_is_plain"] (defScope s_drawn) := ⟨rfl, rfl, rfl, by decide +kernel, rfl, by decide +kernel, by decide +kernel⟩
abbrev s_l_is_list : Stmt := top 65
theorem sc_l_is_list : FnScope ["_law_x"] ["_law_x"] (defScope s_l_is_list) := ⟨rfl, rfl, rfl, by decide +kernel, rfl, by decide +kernel, by decide +kernel⟩
abbrev s_wires : Stmt := top 66
theorem sc_wires : FnScope ["_law_box"] ["_law_box"] (defScope s_wires) := ⟨rfl, rfl, rfl, by decide +kernel, rfl, by decide +kernel, by decide +kernel⟩
abbrev s_l_is_word : Stmt := top 67
theorem sc_l_is_word : FnScope ["_law_x", "_law_sign"] ["_law_x"] (defScope s_l_is_word) := ⟨rfl, rfl, rfl, by decide +kernel, rfl, by decide +kernel, by decide +kernel⟩
abbrev s_l_is_ground : Stmt := top 68
theorem sc_l_is_ground : FnScope ["_law_x", "_law_part"] ["_law_x"] (defScope s_l_is_ground) := ⟨rfl, rfl, rfl, by decide +kernel, rfl, by decide +kernel, by decide +kernel⟩
abbrev s_l_is_wire : Stmt := top 69
theorem sc_l_is_wire : FnScope ["_law_x", "_law_names_here", "_law_term"] ["_law_x", "_law_names_here"] (defScope s_l_is_wire) := ⟨rfl, rfl, rfl, by decide +kernel, rfl, by decide +kernel, by decide +kernel⟩
abbrev s_l_is_box : Stmt := top 70
theorem sc_l_is_box : FnScope ["_law_x", "_law_names_here", "_law_wire"] ["_law_x", "_law_names_here"] (defScope s_l_is_box) := ⟨rfl, rfl, rfl, by decide +kernel, rfl, by decide +kernel, by decide +kernel⟩
abbrev s_made_due : Stmt := top 71
theorem sc_made_due : FnScope ["_law_boxes", "_law_outputs", "_law_name", "_law_names_here", "_law_arities", "_law_f", "_law_many", "_law_k"] ["_law_boxes", "_law_outputs"] (defScope s_made_due) := ⟨rfl, rfl, rfl, by decide +kernel, rfl, by decide +kernel, by decide +kernel⟩
abbrev s_is_on_ring : Stmt := top 72
theorem sc_is_on_ring : FnScope ["_law_boxes", "_law_name", "_law_found", "_law_turn", "_law_other", "_law_p", "_law_firsts", "_law_k"] ["_law_boxes", "_law_name"] (defScope s_is_on_ring) := ⟨rfl, rfl, rfl, by decide +kernel, rfl, by decide +kernel, by decide +kernel⟩
abbrev s_odd_things : Stmt := top 73
theorem sc_odd_things : FnScope ["_law_some"] [] (defScope s_odd_things) := ⟨rfl, rfl, rfl, by decide +kernel, rfl, by decide +kernel, by decide +kernel⟩
abbrev s_bent_wire : Stmt := top 74
theorem sc_bent_wire : FnScope ["_law_state", "_law_wire", "_law_odd", "_law_p", "_law_firsts", "_law_some"] ["_law_state", "_law_wire", "_law_odd"] (defScope s_bent_wire) := ⟨rfl, rfl, rfl, by decide +kernel, rfl, by decide +kernel, by decide +kernel⟩
abbrev s_bent_box : Stmt := top 75
theorem sc_bent_box : FnScope ["_law_state", "_law_box", "_law_odd", "_law_at", "_law_wires_here", "_law_some"] ["_law_state", "_law_box", "_law_odd"] (defScope s_bent_box) := ⟨rfl, rfl, rfl, by decide +kernel, rfl, by decide +kernel, by decide +kernel⟩
abbrev s_law : Stmt := top 76
theorem sc_law : FnScope ["_law_script", "_law_state", "_law_turn", "_law_net", "_law_odd", "_law_way", "_law_name", "_law_out", "_law_key", "_law_some", "_law_rounds", "_law_found", "_law_due", "_law_boxes", "_law_outputs"] ["_law_script"] (defScope s_law) := ⟨rfl, rfl, rfl, by decide +kernel, rfl, by decide +kernel, by decide +kernel⟩
end Lw
namespace Lw
open PySem PySem.Spec PyProof.Rows L2
theorem y_distances : Sx.YOk "distances" := ⟨by decide, by decide, by decide, by decide, fun _ _ _ _ _ _ _ _ _ _ _ _ => rfl, fun _ _ _ _ _ _ _ _ _ _ _ _ => rfl⟩
theorem y_lag : Sx.YOk "lag" := ⟨by decide, by decide, by decide, by decide, fun _ _ _ _ _ _ _ _ _ _ _ _ => rfl, fun _ _ _ _ _ _ _ _ _ _ _ _ => rfl⟩
theorem y_late : Sx.YOk "late" := ⟨by decide, by decide, by decide, by decide, fun _ _ _ _ _ _ _ _ _ _ _ _ => rfl, fun _ _ _ _ _ _ _ _ _ _ _ _ => rfl⟩
theorem y_line : Sx.YOk "line" := ⟨by decide, by decide, by decide, by decide, fun _ _ _ _ _ _ _ _ _ _ _ _ => rfl, fun _ _ _ _ _ _ _ _ _ _ _ _ => rfl⟩
theorem y_many : Sx.YOk "many" := ⟨by decide, by decide, by decide, by decide, fun _ _ _ _ _ _ _ _ _ _ _ _ => rfl, fun _ _ _ _ _ _ _ _ _ _ _ _ => rfl⟩
theorem y_meaning : Sx.YOk "meaning" := ⟨by decide, by decide, by decide, by decide, fun _ _ _ _ _ _ _ _ _ _ _ _ => rfl, fun _ _ _ _ _ _ _ _ _ _ _ _ => rfl⟩
theorem y_name : Sx.YOk "name" := ⟨by decide, by decide, by decide, by decide, fun _ _ _ _ _ _ _ _ _ _ _ _ => rfl, fun _ _ _ _ _ _ _ _ _ _ _ _ => rfl⟩
theorem y_net : Sx.YOk "net" := ⟨by decide, by decide, by decide, by decide, fun _ _ _ _ _ _ _ _ _ _ _ _ => rfl, fun _ _ _ _ _ _ _ _ _ _ _ _ => rfl⟩
theorem y_period : Sx.YOk "period" := ⟨by decide, by decide, by decide, by decide, fun _ _ _ _ _ _ _ _ _ _ _ _ => rfl, fun _ _ _ _ _ _ _ _ _ _ _ _ => rfl⟩
theorem y_thing : Sx.YOk "thing" := ⟨by decide, by decide, by decide, by decide, fun _ _ _ _ _ _ _ _ _ _ _ _ => rfl, fun _ _ _ _ _ _ _ _ _ _ _ _ => rfl⟩
theorem y_time : Sx.YOk "time" := ⟨by decide, by decide, by decide, by decide, fun _ _ _ _ _ _ _ _ _ _ _ _ => rfl, fun _ _ _ _ _ _ _ _ _ _ _ _ => rfl⟩
theorem y_times : Sx.YOk "times" := ⟨by decide, by decide, by decide, by decide, fun _ _ _ _ _ _ _ _ _ _ _ _ => rfl, fun _ _ _ _ _ _ _ _ _ _ _ _ => rfl⟩
def loose_0 : List PySem.Str := ["_wall", "NetError", "BadBoxes", "BadBox", "BadOutputs", "BadOutput", "Ring", "BadTime", "TooLong", "BadMeaning", "BadNet", "BadLate", "BadTimes", "BadDistances", "BadPeriod", "HasNet", "BadInput", "BadLag", "BadText", "BadMany", "LETTERS", "MOST_PARTS", "MOST_SIZE", "is_integer", "is_list", "is_word", "is_ground", "as_term", "term_text", "Table"]
def loose_1 : List PySem.Str := ["MOST_WIRES", "MOST_OUTPUTS", "MOST_TOLD", "is_wire", "as_wire", "is_box", "as_box", "copied_box", "copied_wire", "wires_of_box", "checked_boxes", "checked_outputs", "order_of", "reached", "Net", "checked_time", "Values", "wire_text", "_law_fresh", "_law_fill", "_law_take", "_law_one", "_law_mix", "_law_same", "_law_tried", "_law_error", "_law_other_error", "_law_arity", "_law_starts", "_law_names"]
def loose_2 : List PySem.Str := ["_law_drawn", "_law_is_list", "_law_wires", "_law_is_word", "_law_is_ground", "_law_is_wire", "_law_is_box", "_law_made_due", "_law_is_on_ring", "_law_odd_things", "_law_bent_wire", "_law_bent_box"]
def loose : List PySem.Str := loose_0 ++ loose_1 ++ loose_2
def fa_0 : List He.Fa := [.glo "_wall", .glo "is_integer", .glo "is_list", .glo "is_word", .glo "is_ground", .glo "as_term", .glo "term_text", .glo "is_wire", .glo "as_wire", .glo "is_box", .glo "as_box", .glo "copied_box", .glo "copied_wire", .glo "wires_of_box", .glo "checked_boxes", .glo "checked_outputs", .glo "order_of", .glo "reached", .glo "checked_time", .glo "wire_text", .glo "_law_fresh", .glo "_law_fill", .glo "_law_take", .glo "_law_one", .glo "_law_mix", .glo "_law_same", .glo "_law_tried", .glo "_law_error", .glo "_law_other_error", .glo "_law_arity"]
def fa_1 : List He.Fa := [.glo "_law_starts", .glo "_law_names", .glo "_law_drawn", .glo "_law_is_list", .glo "_law_wires", .glo "_law_is_word", .glo "_law_is_ground", .glo "_law_is_wire", .glo "_law_is_box", .glo "_law_made_due", .glo "_law_is_on_ring", .glo "_law_odd_things", .glo "_law_bent_wire", .glo "_law_bent_box", .glo "law", .glo "NetError", .glo "BadBoxes", .glo "BadBox", .glo "BadOutputs", .glo "BadOutput", .glo "Ring", .glo "BadTime", .glo "TooLong", .glo "BadMeaning", .glo "BadNet", .glo "BadLate", .glo "BadTimes", .glo "BadDistances", .glo "BadPeriod", .glo "HasNet"]
def fa_2 : List He.Fa := [.glo "BadInput", .glo "BadLag", .glo "BadText", .glo "BadMany", .glo "Table", .glo "Net", .glo "Values", .free "ValueError", .free "all", .free "bool", .free "dict", .free "enumerate", .free "int", .free "isinstance", .free "len", .free "list", .free "max", .free "min", .free "range", .free "sorted", .free "staticmethod", .free "str", .free "sum", .free "tuple", .free "zip", .cls "Table", .mkr "Table", .noat "Table" "numbers", .noat "Table" "key_rows", .noat "Table" "sizes"]
def fa_3 : List He.Fa := [.noat "Table" "latest", .cls "Net", .mkr "Net", .noat "Net" "box_table", .noat "Net" "output_table", .noat "Net" "order", .cls "Values", .mkr "Values", .noat "Values" "net", .noat "Values" "table", .noat "Values" "rows", .meth "Table" "__init__", .meth "Table" "number", .meth "Table" "ground", .meth "Table" "term", .meth "Net" "__init__", .meth "Net" "__eq__", .meth "Net" "boxes", .meth "Net" "outputs", .meth "Net" "counting", .meth "Net" "is_plain", .meth "Net" "ahead", .meth "Net" "term", .meth "Net" "shown", .meth "Net" "told_term", .meth "Net" "played", .meth "Net" "text", .meth "Values" "__init__", .meth "Values" "start_number", .meth "Values" "came"]
def fa_4 : List He.Fa := [.meth "Values" "given", .meth "Values" "adds_row", .meth "Values" "given_now", .str "LETTERS" "abcdefghijklmnopqrstuvwxyz", .int "MOST_PARTS" 4, .int "MOST_SIZE" 1000000, .int "MOST_WIRES" 4, .int "MOST_OUTPUTS" 4, .int "MOST_TOLD" 400]
def fa : List He.Fa := fa_0 ++ fa_1 ++ fa_2 ++ fa_3 ++ fa_4
def fn_0 : List He.DefD := [⟨("_wall", none), "_wall", "_wall", defArgs s__wall, defBody s__wall, defScope s__wall, [], []⟩, ⟨("is_integer", none), "is_integer", "is_integer", defArgs s_is_integer, defBody s_is_integer, defScope s_is_integer, [], []⟩, ⟨("is_list", none), "is_list", "is_list", defArgs s_is_list, defBody s_is_list, defScope s_is_list, [], []⟩, ⟨("is_word", none), "is_word", "is_word", defArgs s_is_word, defBody s_is_word, defScope s_is_word, [], []⟩, ⟨("is_ground", none), "is_ground", "is_ground", defArgs s_is_ground, defBody s_is_ground, defScope s_is_ground, [], []⟩, ⟨("as_term", none), "as_term", "as_term", defArgs s_as_term, defBody s_as_term, defScope s_as_term, [], []⟩, ⟨("term_text", none), "term_text", "term_text", defArgs s_term_text, defBody s_term_text, defScope s_term_text, [], []⟩, ⟨("Table", some "__init__"), "__init__", "Table.__init__", defArgs s_Table_init, defBody s_Table_init, defScope s_Table_init, [], []⟩, ⟨("Table", some "number"), "number", "Table.number", defArgs s_Table_number, defBody s_Table_number, defScope s_Table_number, [], []⟩, ⟨("Table", some "ground"), "ground", "Table.ground", defArgs s_Table_ground, defBody s_Table_ground, defScope s_Table_ground, [], []⟩, ⟨("Table", some "term"), "term", "Table.term", defArgs s_Table_term, defBody s_Table_term, defScope s_Table_term, [], []⟩, ⟨("is_wire", none), "is_wire", "is_wire", defArgs s_is_wire, defBody s_is_wire, defScope s_is_wire, [], []⟩, ⟨("as_wire", none), "as_wire", "as_wire", defArgs s_as_wire, defBody s_as_wire, defScope s_as_wire, [], []⟩, ⟨("is_box", none), "is_box", "is_box", defArgs s_is_box, defBody s_is_box, defScope s_is_box, [], []⟩, ⟨("as_box", none), "as_box", "as_box", defArgs s_as_box, defBody s_as_box, defScope s_as_box, [], []⟩, ⟨("copied_box", none), "copied_box", "copied_box", defArgs s_copied_box, defBody s_copied_box, defScope s_copied_box, [], []⟩, ⟨("copied_wire", none), "copied_wire", "copied_wire", defArgs s_copied_wire, defBody s_copied_wire, defScope s_copied_wire, [], []⟩, ⟨("wires_of_box", none), "wires_of_box", "wires_of_box", defArgs s_wires_of_box, defBody s_wires_of_box, defScope s_wires_of_box, [], []⟩, ⟨("checked_boxes", none), "checked_boxes", "checked_boxes", defArgs s_checked_boxes, defBody s_checked_boxes, defScope s_checked_boxes, [], []⟩, ⟨("checked_outputs", none), "checked_outputs", "checked_outputs", defArgs s_checked_outputs, defBody s_checked_outputs, defScope s_checked_outputs, [], []⟩, ⟨("order_of", none), "order_of", "order_of", defArgs s_order_of, defBody s_order_of, defScope s_order_of, [], []⟩, ⟨("reached", none), "reached", "reached", defArgs s_reached, defBody s_reached, defScope s_reached, [], []⟩, ⟨("Net", some "__init__"), "__init__", "Net.__init__", defArgs s_Net_init, defBody s_Net_init, defScope s_Net_init, [], []⟩, ⟨("Net", some "__eq__"), "__eq__", "Net.__eq__", defArgs s_Net_eq, defBody s_Net_eq, defScope s_Net_eq, [], []⟩, ⟨("Net", some "boxes"), "boxes", "Net.boxes", defArgs s_Net_boxes, defBody s_Net_boxes, defScope s_Net_boxes, [], []⟩, ⟨("Net", some "outputs"), "outputs", "Net.outputs", defArgs s_Net_outputs, defBody s_Net_outputs, defScope s_Net_outputs, [], []⟩, ⟨("Net", some "counting"), "counting", "Net.counting", defArgs s_Net_counting, defBody s_Net_counting, defScope s_Net_counting, [], []⟩, ⟨("Net", some "is_plain"), "is_plain", "Net.is_plain", defArgs s_Net_is_plain, defBody s_Net_is_plain, defScope s_Net_is_plain, [], []⟩, ⟨("Net", some "ahead"), "ahead", "Net.ahead", defArgs s_Net_ahead, defBody s_Net_ahead, defScope s_Net_ahead, [], []⟩, ⟨("Net", some "term"), "term", "Net.term", defArgs s_Net_term, defBody s_Net_term, defScope s_Net_term, [], []⟩]
def fn_1 : List He.DefD := [⟨("Net", some "shown"), "shown", "Net.shown", defArgs s_Net_shown, defBody s_Net_shown, defScope s_Net_shown, [], []⟩, ⟨("Net", some "told_term"), "told_term", "Net.told_term", defArgs s_Net_told_term, defBody s_Net_told_term, defScope s_Net_told_term, [], []⟩, ⟨("Net", some "played"), "played", "Net.played", defArgs s_Net_played, defBody s_Net_played, defScope s_Net_played, [], []⟩, ⟨("Net", some "text"), "text", "Net.text", defArgs s_Net_text, defBody s_Net_text, defScope s_Net_text, [], []⟩, ⟨("checked_time", none), "checked_time", "checked_time", defArgs s_checked_time, defBody s_checked_time, defScope s_checked_time, [], []⟩, ⟨("Values", some "__init__"), "__init__", "Values.__init__", defArgs s_Values_init, defBody s_Values_init, defScope s_Values_init, [], []⟩, ⟨("Values", some "start_number"), "start_number", "Values.start_number", defArgs s_Values_start_number, defBody s_Values_start_number, defScope s_Values_start_number, [], []⟩, ⟨("Values", some "came"), "came", "Values.came", defArgs s_Values_came, defBody s_Values_came, defScope s_Values_came, [], []⟩, ⟨("Values", some "given"), "given", "Values.given", defArgs s_Values_given, defBody s_Values_given, defScope s_Values_given, [], []⟩, ⟨("Values", some "adds_row"), "adds_row", "Values.adds_row", defArgs s_Values_adds_row, defBody s_Values_adds_row, defScope s_Values_adds_row, [], []⟩, ⟨("Values", some "given_now"), "given_now", "Values.given_now", defArgs s_Values_given_now, defBody s_Values_given_now, defScope s_Values_given_now, [], []⟩, ⟨("wire_text", none), "wire_text", "wire_text", defArgs s_wire_text, defBody s_wire_text, defScope s_wire_text, [], []⟩, ⟨("_law_fresh", none), "_law_fresh", "_law_fresh", defArgs s_fresh, defBody s_fresh, defScope s_fresh, [], []⟩, ⟨("_law_fill", none), "_law_fill", "_law_fill", defArgs s_fill, defBody s_fill, defScope s_fill, [], []⟩, ⟨("_law_take", none), "_law_take", "_law_take", defArgs s_take, defBody s_take, defScope s_take, [], []⟩, ⟨("_law_one", none), "_law_one", "_law_one", defArgs s_one, defBody s_one, defScope s_one, [], []⟩, ⟨("_law_mix", none), "_law_mix", "_law_mix", defArgs s_mix, defBody s_mix, defScope s_mix, [], []⟩, ⟨("_law_same", none), "_law_same", "_law_same", defArgs s_same, defBody s_same, defScope s_same, [], []⟩, ⟨("_law_tried", none), "_law_tried", "_law_tried", defArgs s_tried, defBody s_tried, defScope s_tried, [], []⟩, ⟨("_law_error", none), "_law_error", "_law_error", defArgs s_error, defBody s_error, defScope s_error, [], []⟩, ⟨("_law_other_error", none), "_law_other_error", "_law_other_error", defArgs s_other_error, defBody s_other_error, defScope s_other_error, [], []⟩, ⟨("_law_arity", none), "_law_arity", "_law_arity", defArgs s_arity, defBody s_arity, defScope s_arity, [], []⟩, ⟨("_law_starts", none), "_law_starts", "_law_starts", defArgs s_starts, defBody s_starts, defScope s_starts, [], []⟩, ⟨("_law_names", none), "_law_names", "_law_names", defArgs s_names, defBody s_names, defScope s_names, [], []⟩, ⟨("_law_drawn", none), "_law_drawn", "_law_drawn", defArgs s_drawn, defBody s_drawn, defScope s_drawn, [], []⟩, ⟨("_law_is_list", none), "_law_is_list", "_law_is_list", defArgs s_l_is_list, defBody s_l_is_list, defScope s_l_is_list, [], []⟩, ⟨("_law_wires", none), "_law_wires", "_law_wires", defArgs s_wires, defBody s_wires, defScope s_wires, [], []⟩, ⟨("_law_is_word", none), "_law_is_word", "_law_is_word", defArgs s_l_is_word, defBody s_l_is_word, defScope s_l_is_word, [], []⟩, ⟨("_law_is_ground", none), "_law_is_ground", "_law_is_ground", defArgs s_l_is_ground, defBody s_l_is_ground, defScope s_l_is_ground, [], []⟩, ⟨("_law_is_wire", none), "_law_is_wire", "_law_is_wire", defArgs s_l_is_wire, defBody s_l_is_wire, defScope s_l_is_wire, [], []⟩]
def fn_2 : List He.DefD := [⟨("_law_is_box", none), "_law_is_box", "_law_is_box", defArgs s_l_is_box, defBody s_l_is_box, defScope s_l_is_box, [], []⟩, ⟨("_law_made_due", none), "_law_made_due", "_law_made_due", defArgs s_made_due, defBody s_made_due, defScope s_made_due, [], []⟩, ⟨("_law_is_on_ring", none), "_law_is_on_ring", "_law_is_on_ring", defArgs s_is_on_ring, defBody s_is_on_ring, defScope s_is_on_ring, [], []⟩, ⟨("_law_odd_things", none), "_law_odd_things", "_law_odd_things", defArgs s_odd_things, defBody s_odd_things, defScope s_odd_things, [], []⟩, ⟨("_law_bent_wire", none), "_law_bent_wire", "_law_bent_wire", defArgs s_bent_wire, defBody s_bent_wire, defScope s_bent_wire, [], []⟩, ⟨("_law_bent_box", none), "_law_bent_box", "_law_bent_box", defArgs s_bent_box, defBody s_bent_box, defScope s_bent_box, [], []⟩, ⟨("law", none), "law", "law", defArgs s_law, defBody s_law, defScope s_law, [], []⟩]
def fn : List He.DefD := fn_0 ++ fn_1 ++ fn_2
def xs : List Str := ["BadBoxes", "BadBox", "BadOutputs", "BadOutput", "Ring", "BadTime", "TooLong", "BadMeaning", "BadNet", "BadLate", "BadTimes", "BadDistances", "BadPeriod", "HasNet", "BadInput", "BadLag", "BadText", "BadMany"]
def vs : List ExV := [exOf "BadBoxes.__init__" (inClass (top 3) 0), exOf "BadBox.__init__" (inClass (top 4) 0), exOf "BadOutputs.__init__" (inClass (top 5) 0), exOf "BadOutput.__init__" (inClass (top 6) 0), exOf "Ring.__init__" (inClass (top 7) 0), exOf "BadTime.__init__" (inClass (top 8) 0), exOf "TooLong.__init__" (inClass (top 9) 0), exOf "BadMeaning.__init__" (inClass (top 10) 0), exOf "BadNet.__init__" (inClass (top 11) 0), exOf "BadLate.__init__" (inClass (top 12) 0), exOf "BadTimes.__init__" (inClass (top 13) 0), exOf "BadDistances.__init__" (inClass (top 14) 0), exOf "BadPeriod.__init__" (inClass (top 15) 0), exOf "HasNet.__init__" (inClass (top 16) 0), exOf "BadInput.__init__" (inClass (top 17) 0), exOf "BadLag.__init__" (inClass (top 18) 0), exOf "BadText.__init__" (inClass (top 19) 0), exOf "BadMany.__init__" (inClass (top 20) 0)]
abbrev PR : Program := PySem.Challenge.pw_laternets_k03_nets_refused
def clL (K : PySem.W.Frag) : List Bool := [xB K (He.ga K "BadBoxes") (He.ma K (He.ga K "BadBoxes") "__init__") "thing" "BadBoxes.__init__" PR.main.file && excB K (He.ga K "BadBoxes"), xB K (He.ga K "BadBox") (He.ma K (He.ga K "BadBox") "__init__") "name" "BadBox.__init__" PR.main.file && excB K (He.ga K "BadBox"), xB K (He.ga K "BadOutputs") (He.ma K (He.ga K "BadOutputs") "__init__") "thing" "BadOutputs.__init__" PR.main.file && excB K (He.ga K "BadOutputs"), xB K (He.ga K "BadOutput") (He.ma K (He.ga K "BadOutput") "__init__") "name" "BadOutput.__init__" PR.main.file && excB K (He.ga K "BadOutput"), xB K (He.ga K "Ring") (He.ma K (He.ga K "Ring") "__init__") "name" "Ring.__init__" PR.main.file && excB K (He.ga K "Ring"), xB K (He.ga K "BadTime") (He.ma K (He.ga K "BadTime") "__init__") "time" "BadTime.__init__" PR.main.file && excB K (He.ga K "BadTime"), xB K (He.ga K "TooLong") (He.ma K (He.ga K "TooLong") "__init__") "time" "TooLong.__init__" PR.main.file && excB K (He.ga K "TooLong"), xB K (He.ga K "BadMeaning") (He.ma K (He.ga K "BadMeaning") "__init__") "meaning" "BadMeaning.__init__" PR.main.file && excB K (He.ga K "BadMeaning"), xB K (He.ga K "BadNet") (He.ma K (He.ga K "BadNet") "__init__") "net" "BadNet.__init__" PR.main.file && excB K (He.ga K "BadNet"), xB K (He.ga K "BadLate") (He.ma K (He.ga K "BadLate") "__init__") "late" "BadLate.__init__" PR.main.file && excB K (He.ga K "BadLate"), xB K (He.ga K "BadTimes") (He.ma K (He.ga K "BadTimes") "__init__") "times" "BadTimes.__init__" PR.main.file && excB K (He.ga K "BadTimes"), xB K (He.ga K "BadDistances") (He.ma K (He.ga K "BadDistances") "__init__") "distances" "BadDistances.__init__" PR.main.file && excB K (He.ga K "BadDistances"), xB K (He.ga K "BadPeriod") (He.ma K (He.ga K "BadPeriod") "__init__") "period" "BadPeriod.__init__" PR.main.file && excB K (He.ga K "BadPeriod"), xB K (He.ga K "HasNet") (He.ma K (He.ga K "HasNet") "__init__") "period" "HasNet.__init__" PR.main.file && excB K (He.ga K "HasNet"), xB K (He.ga K "BadInput") (He.ma K (He.ga K "BadInput") "__init__") "name" "BadInput.__init__" PR.main.file && excB K (He.ga K "BadInput"), xB K (He.ga K "BadLag") (He.ma K (He.ga K "BadLag") "__init__") "lag" "BadLag.__init__" PR.main.file && excB K (He.ga K "BadLag"), xB K (He.ga K "BadText") (He.ma K (He.ga K "BadText") "__init__") "line" "BadText.__init__" PR.main.file && excB K (He.ga K "BadText"), xB K (He.ga K "BadMany") (He.ma K (He.ga K "BadMany") "__init__") "many" "BadMany.__init__" PR.main.file && excB K (He.ga K "BadMany")]
def netB (K : PySem.W.Frag) : Bool := PySem.W.excIn K (He.ga K "NetError") veM "ValueError.__new__" && (PySem.W.keepIn K (.ref (He.ga K "NetError")) && excB K (He.ga K "NetError"))
def owL (K : PySem.W.Frag) : List Bool := [ownIB K (He.ga K "Table"), ownIB K (He.ga K "Net"), ownCB K (He.ga K "Net") (He.fAd K ("Net", some "__eq__")), ownIB K (He.ga K "Values")]
def xb (K : PySem.W.Frag) : Bool := (clL K).all id && (netB K && ((owL K).all id && (kxB K [He.ga K "BadBoxes", He.ga K "BadBox", He.ga K "BadOutputs", He.ga K "BadOutput", He.ga K "Ring", He.ga K "BadTime", He.ga K "TooLong", He.ga K "BadMeaning", He.ga K "BadNet", He.ga K "BadLate", He.ga K "BadTimes", He.ga K "BadDistances", He.ga K "BadPeriod", He.ga K "HasNet", He.ga K "BadInput", He.ga K "BadLag", He.ga K "BadText", He.ga K "BadMany"] && nxB K [He.ga K "BadBoxes", He.ga K "BadBox", He.ga K "BadOutputs", He.ga K "BadOutput", He.ga K "Ring", He.ga K "BadTime", He.ga K "TooLong", He.ga K "BadMeaning", He.ga K "BadNet", He.ga K "BadLate", He.ga K "BadTimes", He.ga K "BadDistances", He.ga K "BadPeriod", He.ga K "HasNet", He.ga K "BadInput", He.ga K "BadLag", He.ga K "BadText", He.ga K "BadMany"] (He.ga K "NetError"))))
abbrev tf : List He.Defn := [("law", none)]
abbrev R : PySem.W.OpenRow := PySem.W.OpenLaw.row PySem.Challenge.rw_laternets_k03_nets_refused
abbrev hk : PySem.W.Hook := hookY 6 fa fn xb xs vs tf
def ob (s : PySem.W.SharedT) : AlX := obsYG 6 fa fn xb xs tf (HandSHeadRun.getT s)
theorem ob_eq (s : PySem.W.SharedT) : ob s = hk.obs s.abs := obsYG_eq (HandSHeadRun.getT_eq s)
theorem run (w : World) : HandSHeadRun.RunEq R (PySem.W.view R.prog [76]) hk ob 60000 loose w := by
  intro os
  kernel_rfl

end Lw
namespace Lw
open PySem PySem.Spec PyProof.Rows L2 Evl Wv
/-- what the run up to the law leaves, by names -/
structure Txt (P : Program) (K : PySem.W.Frag) (mg : Str → Option Value) : Type where
  c_NetError : Addr
  g_NetError : mg "NetError" = some (.ref c_NetError)
  c_BadBoxes : Addr
  g_BadBoxes : mg "BadBoxes" = some (.ref c_BadBoxes)
  c_BadBox : Addr
  g_BadBox : mg "BadBox" = some (.ref c_BadBox)
  c_BadOutputs : Addr
  g_BadOutputs : mg "BadOutputs" = some (.ref c_BadOutputs)
  c_BadOutput : Addr
  g_BadOutput : mg "BadOutput" = some (.ref c_BadOutput)
  c_Ring : Addr
  g_Ring : mg "Ring" = some (.ref c_Ring)
  c_BadTime : Addr
  g_BadTime : mg "BadTime" = some (.ref c_BadTime)
  c_TooLong : Addr
  g_TooLong : mg "TooLong" = some (.ref c_TooLong)
  c_BadMeaning : Addr
  g_BadMeaning : mg "BadMeaning" = some (.ref c_BadMeaning)
  c_BadNet : Addr
  g_BadNet : mg "BadNet" = some (.ref c_BadNet)
  c_BadLate : Addr
  g_BadLate : mg "BadLate" = some (.ref c_BadLate)
  c_BadTimes : Addr
  g_BadTimes : mg "BadTimes" = some (.ref c_BadTimes)
  c_BadDistances : Addr
  g_BadDistances : mg "BadDistances" = some (.ref c_BadDistances)
  c_BadPeriod : Addr
  g_BadPeriod : mg "BadPeriod" = some (.ref c_BadPeriod)
  c_HasNet : Addr
  g_HasNet : mg "HasNet" = some (.ref c_HasNet)
  c_BadInput : Addr
  g_BadInput : mg "BadInput" = some (.ref c_BadInput)
  c_BadLag : Addr
  g_BadLag : mg "BadLag" = some (.ref c_BadLag)
  c_BadText : Addr
  g_BadText : mg "BadText" = some (.ref c_BadText)
  c_BadMany : Addr
  g_BadMany : mg "BadMany" = some (.ref c_BadMany)
  c_Table : Addr
  g_Table : mg "Table" = some (.ref c_Table)
  c_Net : Addr
  g_Net : mg "Net" = some (.ref c_Net)
  c_Values : Addr
  g_Values : mg "Values" = some (.ref c_Values)
  a__wall : Addr
  d__wall : FuncData
  F__wall : FunD K "_wall" "_wall" (defArgs s__wall) (defBody s__wall) (defScope s__wall) [] [] a__wall d__wall
  b__wall : Binds K d__wall ["k"] []
  g__wall : mg "_wall" = some (.ref a__wall)
  a_is_integer : Addr
  d_is_integer : FuncData
  F_is_integer : FunD K "is_integer" "is_integer" (defArgs s_is_integer) (defBody s_is_integer) (defScope s_is_integer) [] [] a_is_integer d_is_integer
  b_is_integer : Binds K d_is_integer ["thing"] []
  g_is_integer : mg "is_integer" = some (.ref a_is_integer)
  a_is_list : Addr
  d_is_list : FuncData
  F_is_list : FunD K "is_list" "is_list" (defArgs s_is_list) (defBody s_is_list) (defScope s_is_list) [] [] a_is_list d_is_list
  b_is_list : Binds K d_is_list ["thing"] []
  g_is_list : mg "is_list" = some (.ref a_is_list)
  a_is_word : Addr
  d_is_word : FuncData
  F_is_word : FunD K "is_word" "is_word" (defArgs s_is_word) (defBody s_is_word) (defScope s_is_word) [] [] a_is_word d_is_word
  b_is_word : Binds K d_is_word ["thing"] []
  g_is_word : mg "is_word" = some (.ref a_is_word)
  a_is_ground : Addr
  d_is_ground : FuncData
  F_is_ground : FunD K "is_ground" "is_ground" (defArgs s_is_ground) (defBody s_is_ground) (defScope s_is_ground) [] [] a_is_ground d_is_ground
  b_is_ground : Binds K d_is_ground ["thing"] []
  g_is_ground : mg "is_ground" = some (.ref a_is_ground)
  a_as_term : Addr
  d_as_term : FuncData
  F_as_term : FunD K "as_term" "as_term" (defArgs s_as_term) (defBody s_as_term) (defScope s_as_term) [] [] a_as_term d_as_term
  b_as_term : Binds K d_as_term ["thing"] []
  g_as_term : mg "as_term" = some (.ref a_as_term)
  a_term_text : Addr
  d_term_text : FuncData
  F_term_text : FunD K "term_text" "term_text" (defArgs s_term_text) (defBody s_term_text) (defScope s_term_text) [] [] a_term_text d_term_text
  b_term_text : Binds K d_term_text ["term"] []
  g_term_text : mg "term_text" = some (.ref a_term_text)
  a_Table_init : Addr
  d_Table_init : FuncData
  F_Table_init : FunD K "__init__" "Table.__init__" (defArgs s_Table_init) (defBody s_Table_init) (defScope s_Table_init) [] [] a_Table_init d_Table_init
  b_Table_init : Binds K d_Table_init ["self"] []
  m_Table_init : Meth K c_Table "__init__" a_Table_init
  a_Table_number : Addr
  d_Table_number : FuncData
  F_Table_number : FunD K "number" "Table.number" (defArgs s_Table_number) (defBody s_Table_number) (defScope s_Table_number) [] [] a_Table_number d_Table_number
  b_Table_number : Binds K d_Table_number ["self", "key"] []
  m_Table_number : Meth K c_Table "number" a_Table_number
  a_Table_ground : Addr
  d_Table_ground : FuncData
  F_Table_ground : FunD K "ground" "Table.ground" (defArgs s_Table_ground) (defBody s_Table_ground) (defScope s_Table_ground) [] [] a_Table_ground d_Table_ground
  b_Table_ground : Binds K d_Table_ground ["self", "term"] []
  m_Table_ground : Meth K c_Table "ground" a_Table_ground
  a_Table_term : Addr
  d_Table_term : FuncData
  F_Table_term : FunD K "term" "Table.term" (defArgs s_Table_term) (defBody s_Table_term) (defScope s_Table_term) [] [] a_Table_term d_Table_term
  b_Table_term : Binds K d_Table_term ["self", "number"] []
  m_Table_term : Meth K c_Table "term" a_Table_term
  a_is_wire : Addr
  d_is_wire : FuncData
  F_is_wire : FunD K "is_wire" "is_wire" (defArgs s_is_wire) (defBody s_is_wire) (defScope s_is_wire) [] [] a_is_wire d_is_wire
  b_is_wire : Binds K d_is_wire ["thing", "boxes"] []
  g_is_wire : mg "is_wire" = some (.ref a_is_wire)
  a_as_wire : Addr
  d_as_wire : FuncData
  F_as_wire : FunD K "as_wire" "as_wire" (defArgs s_as_wire) (defBody s_as_wire) (defScope s_as_wire) [] [] a_as_wire d_as_wire
  b_as_wire : Binds K d_as_wire ["thing"] []
  g_as_wire : mg "as_wire" = some (.ref a_as_wire)
  a_is_box : Addr
  d_is_box : FuncData
  F_is_box : FunD K "is_box" "is_box" (defArgs s_is_box) (defBody s_is_box) (defScope s_is_box) [] [] a_is_box d_is_box
  b_is_box : Binds K d_is_box ["thing", "boxes", "wires_of"] []
  g_is_box : mg "is_box" = some (.ref a_is_box)
  a_as_box : Addr
  d_as_box : FuncData
  F_as_box : FunD K "as_box" "as_box" (defArgs s_as_box) (defBody s_as_box) (defScope s_as_box) [] [] a_as_box d_as_box
  b_as_box : Binds K d_as_box ["thing"] []
  g_as_box : mg "as_box" = some (.ref a_as_box)
  a_copied_box : Addr
  d_copied_box : FuncData
  F_copied_box : FunD K "copied_box" "copied_box" (defArgs s_copied_box) (defBody s_copied_box) (defScope s_copied_box) [] [] a_copied_box d_copied_box
  b_copied_box : Binds K d_copied_box ["box"] []
  g_copied_box : mg "copied_box" = some (.ref a_copied_box)
  a_copied_wire : Addr
  d_copied_wire : FuncData
  F_copied_wire : FunD K "copied_wire" "copied_wire" (defArgs s_copied_wire) (defBody s_copied_wire) (defScope s_copied_wire) [] [] a_copied_wire d_copied_wire
  b_copied_wire : Binds K d_copied_wire ["wire"] []
  g_copied_wire : mg "copied_wire" = some (.ref a_copied_wire)
  a_wires_of_box : Addr
  d_wires_of_box : FuncData
  F_wires_of_box : FunD K "wires_of_box" "wires_of_box" (defArgs s_wires_of_box) (defBody s_wires_of_box) (defScope s_wires_of_box) [] [] a_wires_of_box d_wires_of_box
  b_wires_of_box : Binds K d_wires_of_box ["box"] []
  g_wires_of_box : mg "wires_of_box" = some (.ref a_wires_of_box)
  a_checked_boxes : Addr
  d_checked_boxes : FuncData
  F_checked_boxes : FunD K "checked_boxes" "checked_boxes" (defArgs s_checked_boxes) (defBody s_checked_boxes) (defScope s_checked_boxes) [] [] a_checked_boxes d_checked_boxes
  b_checked_boxes : Binds K d_checked_boxes ["boxes"] []
  g_checked_boxes : mg "checked_boxes" = some (.ref a_checked_boxes)
  a_checked_outputs : Addr
  d_checked_outputs : FuncData
  F_checked_outputs : FunD K "checked_outputs" "checked_outputs" (defArgs s_checked_outputs) (defBody s_checked_outputs) (defScope s_checked_outputs) [] [] a_checked_outputs d_checked_outputs
  b_checked_outputs : Binds K d_checked_outputs ["outputs", "boxes"] []
  g_checked_outputs : mg "checked_outputs" = some (.ref a_checked_outputs)
  a_order_of : Addr
  d_order_of : FuncData
  F_order_of : FunD K "order_of" "order_of" (defArgs s_order_of) (defBody s_order_of) (defScope s_order_of) [] [] a_order_of d_order_of
  b_order_of : Binds K d_order_of ["boxes"] []
  g_order_of : mg "order_of" = some (.ref a_order_of)
  a_reached : Addr
  d_reached : FuncData
  F_reached : FunD K "reached" "reached" (defArgs s_reached) (defBody s_reached) (defScope s_reached) [] [] a_reached d_reached
  b_reached : Binds K d_reached ["boxes", "start", "holds_nothing"] []
  g_reached : mg "reached" = some (.ref a_reached)
  a_Net_init : Addr
  d_Net_init : FuncData
  F_Net_init : FunD K "__init__" "Net.__init__" (defArgs s_Net_init) (defBody s_Net_init) (defScope s_Net_init) [] [] a_Net_init d_Net_init
  b_Net_init : Binds K d_Net_init ["self", "boxes", "outputs"] []
  m_Net_init : Meth K c_Net "__init__" a_Net_init
  a_Net_eq : Addr
  d_Net_eq : FuncData
  F_Net_eq : FunD K "__eq__" "Net.__eq__" (defArgs s_Net_eq) (defBody s_Net_eq) (defScope s_Net_eq) [] [] a_Net_eq d_Net_eq
  b_Net_eq : Binds K d_Net_eq ["self", "other"] []
  m_Net_eq : Meth K c_Net "__eq__" a_Net_eq
  a_Net_boxes : Addr
  d_Net_boxes : FuncData
  F_Net_boxes : FunD K "boxes" "Net.boxes" (defArgs s_Net_boxes) (defBody s_Net_boxes) (defScope s_Net_boxes) [] [] a_Net_boxes d_Net_boxes
  b_Net_boxes : Binds K d_Net_boxes ["self"] []
  m_Net_boxes : Meth K c_Net "boxes" a_Net_boxes
  a_Net_outputs : Addr
  d_Net_outputs : FuncData
  F_Net_outputs : FunD K "outputs" "Net.outputs" (defArgs s_Net_outputs) (defBody s_Net_outputs) (defScope s_Net_outputs) [] [] a_Net_outputs d_Net_outputs
  b_Net_outputs : Binds K d_Net_outputs ["self"] []
  m_Net_outputs : Meth K c_Net "outputs" a_Net_outputs
  a_Net_counting : Addr
  d_Net_counting : FuncData
  F_Net_counting : FunD K "counting" "Net.counting" (defArgs s_Net_counting) (defBody s_Net_counting) (defScope s_Net_counting) [] [] a_Net_counting d_Net_counting
  b_Net_counting : Binds K d_Net_counting ["self"] []
  m_Net_counting : Meth K c_Net "counting" a_Net_counting
  a_Net_is_plain : Addr
  d_Net_is_plain : FuncData
  F_Net_is_plain : FunD K "is_plain" "Net.is_plain" (defArgs s_Net_is_plain) (defBody s_Net_is_plain) (defScope s_Net_is_plain) [] [] a_Net_is_plain d_Net_is_plain
  b_Net_is_plain : Binds K d_Net_is_plain ["self"] []
  m_Net_is_plain : Meth K c_Net "is_plain" a_Net_is_plain
  a_Net_ahead : Addr
  d_Net_ahead : FuncData
  F_Net_ahead : FunD K "ahead" "Net.ahead" (defArgs s_Net_ahead) (defBody s_Net_ahead) (defScope s_Net_ahead) [] [] a_Net_ahead d_Net_ahead
  b_Net_ahead : Binds K d_Net_ahead ["self"] []
  m_Net_ahead : Meth K c_Net "ahead" a_Net_ahead
  a_Net_term : Addr
  d_Net_term : FuncData
  F_Net_term : FunD K "term" "Net.term" (defArgs s_Net_term) (defBody s_Net_term) (defScope s_Net_term) [] [] a_Net_term d_Net_term
  b_Net_term : Binds K d_Net_term ["self", "box", "t"] []
  m_Net_term : Meth K c_Net "term" a_Net_term
  a_Net_shown : Addr
  d_Net_shown : FuncData
  F_Net_shown : FunD K "shown" "Net.shown" (defArgs s_Net_shown) (defBody s_Net_shown) (defScope s_Net_shown) [] [] a_Net_shown d_Net_shown
  b_Net_shown : Binds K d_Net_shown ["self", "output", "t"] []
  m_Net_shown : Meth K c_Net "shown" a_Net_shown
  a_Net_told_term : Addr
  d_Net_told_term : FuncData
  F_Net_told_term : FunD K "told_term" "Net.told_term" (defArgs s_Net_told_term) (defBody s_Net_told_term) (defScope s_Net_told_term) [] [] a_Net_told_term d_Net_told_term
  b_Net_told_term : Binds K d_Net_told_term ["self", "wire", "t"] []
  m_Net_told_term : Meth K c_Net "told_term" a_Net_told_term
  a_Net_played : Addr
  d_Net_played : FuncData
  F_Net_played : FunD K "played" "Net.played" (defArgs s_Net_played) (defBody s_Net_played) (defScope s_Net_played) [] [] a_Net_played d_Net_played
  b_Net_played : Binds K d_Net_played ["self", "meaning", "t"] []
  m_Net_played : Meth K c_Net "played" a_Net_played
  a_Net_text : Addr
  d_Net_text : FuncData
  F_Net_text : FunD K "text" "Net.text" (defArgs s_Net_text) (defBody s_Net_text) (defScope s_Net_text) [] [] a_Net_text d_Net_text
  b_Net_text : Binds K d_Net_text ["self"] []
  m_Net_text : Meth K c_Net "text" a_Net_text
  a_checked_time : Addr
  d_checked_time : FuncData
  F_checked_time : FunD K "checked_time" "checked_time" (defArgs s_checked_time) (defBody s_checked_time) (defScope s_checked_time) [] [] a_checked_time d_checked_time
  b_checked_time : Binds K d_checked_time ["t"] []
  g_checked_time : mg "checked_time" = some (.ref a_checked_time)
  a_Values_init : Addr
  d_Values_init : FuncData
  F_Values_init : FunD K "__init__" "Values.__init__" (defArgs s_Values_init) (defBody s_Values_init) (defScope s_Values_init) [] [] a_Values_init d_Values_init
  b_Values_init : Binds K d_Values_init ["self", "net", "table"] []
  m_Values_init : Meth K c_Values "__init__" a_Values_init
  a_Values_start_number : Addr
  d_Values_start_number : FuncData
  F_Values_start_number : FunD K "start_number" "Values.start_number" (defArgs s_Values_start_number) (defBody s_Values_start_number) (defScope s_Values_start_number) [] [] a_Values_start_number d_Values_start_number
  b_Values_start_number : Binds K d_Values_start_number ["self", "term"] []
  m_Values_start_number : Meth K c_Values "start_number" a_Values_start_number
  a_Values_came : Addr
  d_Values_came : FuncData
  F_Values_came : FunD K "came" "Values.came" (defArgs s_Values_came) (defBody s_Values_came) (defScope s_Values_came) [] [] a_Values_came d_Values_came
  b_Values_came : Binds K d_Values_came ["self", "word", "t"] []
  m_Values_came : Meth K c_Values "came" a_Values_came
  a_Values_given : Addr
  d_Values_given : FuncData
  F_Values_given : FunD K "given" "Values.given" (defArgs s_Values_given) (defBody s_Values_given) (defScope s_Values_given) [] [] a_Values_given d_Values_given
  b_Values_given : Binds K d_Values_given ["self", "wire", "t"] []
  m_Values_given : Meth K c_Values "given" a_Values_given
  a_Values_adds_row : Addr
  d_Values_adds_row : FuncData
  F_Values_adds_row : FunD K "adds_row" "Values.adds_row" (defArgs s_Values_adds_row) (defBody s_Values_adds_row) (defScope s_Values_adds_row) [] [] a_Values_adds_row d_Values_adds_row
  b_Values_adds_row : Binds K d_Values_adds_row ["self"] []
  m_Values_adds_row : Meth K c_Values "adds_row" a_Values_adds_row
  a_Values_given_now : Addr
  d_Values_given_now : FuncData
  F_Values_given_now : FunD K "given_now" "Values.given_now" (defArgs s_Values_given_now) (defBody s_Values_given_now) (defScope s_Values_given_now) [] [] a_Values_given_now d_Values_given_now
  b_Values_given_now : Binds K d_Values_given_now ["self", "wire", "t", "row"] []
  m_Values_given_now : Meth K c_Values "given_now" a_Values_given_now
  a_wire_text : Addr
  d_wire_text : FuncData
  F_wire_text : FunD K "wire_text" "wire_text" (defArgs s_wire_text) (defBody s_wire_text) (defScope s_wire_text) [] [] a_wire_text d_wire_text
  b_wire_text : Binds K d_wire_text ["wire"] []
  g_wire_text : mg "wire_text" = some (.ref a_wire_text)
  a_fresh : Addr
  d_fresh : FuncData
  F_fresh : FunD K "_law_fresh" "_law_fresh" (defArgs s_fresh) (defBody s_fresh) (defScope s_fresh) [] [] a_fresh d_fresh
  b_fresh : Binds K d_fresh ["_law_script"] []
  g_fresh : mg "_law_fresh" = some (.ref a_fresh)
  a_fill : Addr
  d_fill : FuncData
  F_fill : FunD K "_law_fill" "_law_fill" (defArgs s_fill) (defBody s_fill) (defScope s_fill) [] [] a_fill d_fill
  b_fill : Binds K d_fill ["_law_state"] []
  g_fill : mg "_law_fill" = some (.ref a_fill)
  a_take : Addr
  d_take : FuncData
  F_take : FunD K "_law_take" "_law_take" (defArgs s_take) (defBody s_take) (defScope s_take) [] [] a_take d_take
  b_take : Binds K d_take ["_law_state", "_law_many"] []
  g_take : mg "_law_take" = some (.ref a_take)
  a_one : Addr
  d_one : FuncData
  F_one : FunD K "_law_one" "_law_one" (defArgs s_one) (defBody s_one) (defScope s_one) [] [] a_one d_one
  b_one : Binds K d_one ["_law_state", "_law_things"] []
  g_one : mg "_law_one" = some (.ref a_one)
  a_mix : Addr
  d_mix : FuncData
  F_mix : FunD K "_law_mix" "_law_mix" (defArgs s_mix) (defBody s_mix) (defScope s_mix) [] [] a_mix d_mix
  b_mix : Binds K d_mix ["_law_state", "_law_things"] []
  g_mix : mg "_law_mix" = some (.ref a_mix)
  a_same : Addr
  d_same : FuncData
  F_same : FunD K "_law_same" "_law_same" (defArgs s_same) (defBody s_same) (defScope s_same) [] [] a_same d_same
  b_same : Binds K d_same ["_law_found", "_law_due"] []
  g_same : mg "_law_same" = some (.ref a_same)
  a_tried : Addr
  d_tried : FuncData
  F_tried : FunD K "_law_tried" "_law_tried" (defArgs s_tried) (defBody s_tried) (defScope s_tried) [] [] a_tried d_tried
  b_tried : Binds K d_tried ["_law_deed"] []
  g_tried : mg "_law_tried" = some (.ref a_tried)
  a_error : Addr
  d_error : FuncData
  F_error : FunD K "_law_error" "_law_error" (defArgs s_error) (defBody s_error) (defScope s_error) [] [] a_error d_error
  b_error : Binds K d_error ["_law_e"] []
  g_error : mg "_law_error" = some (.ref a_error)
  a_other_error : Addr
  d_other_error : FuncData
  F_other_error : FunD K "_law_other_error" "_law_other_error" (defArgs s_other_error) (defBody s_other_error) (defScope s_other_error) [] [] a_other_error d_other_error
  b_other_error : Binds K d_other_error ["_law_e"] []
  g_other_error : mg "_law_other_error" = some (.ref a_other_error)
  a_arity : Addr
  d_arity : FuncData
  F_arity : FunD K "_law_arity" "_law_arity" (defArgs s_arity) (defBody s_arity) (defScope s_arity) [] [] a_arity d_arity
  b_arity : Binds K d_arity ["_law_f"] []
  g_arity : mg "_law_arity" = some (.ref a_arity)
  a_starts : Addr
  d_starts : FuncData
  F_starts : FunD K "_law_starts" "_law_starts" (defArgs s_starts) (defBody s_starts) (defScope s_starts) [] [] a_starts d_starts
  b_starts : Binds K d_starts ["_law_state", "_law_many", "_law_is_plain"] []
  g_starts : mg "_law_starts" = some (.ref a_starts)
  a_names : Addr
  d_names : FuncData
  F_names : FunD K "_law_names" "_law_names" (defArgs s_names) (defBody s_names) (defScope s_names) [] [] a_names d_names
  b_names : Binds K d_names ["_law_state", "_law_many"] []
  g_names : mg "_law_names" = some (.ref a_names)
  a_drawn : Addr
  d_drawn : FuncData
  F_drawn : FunD K "_law_drawn" "_law_drawn" (defArgs s_drawn) (defBody s_drawn) (defScope s_drawn) [] [] a_drawn d_drawn
  b_drawn : Binds K d_drawn ["_law_state", "_law_ops", "_law_most", "_law_is_plain"] []
  g_drawn : mg "_law_drawn" = some (.ref a_drawn)
  a_l_is_list : Addr
  d_l_is_list : FuncData
  F_l_is_list : FunD K "_law_is_list" "_law_is_list" (defArgs s_l_is_list) (defBody s_l_is_list) (defScope s_l_is_list) [] [] a_l_is_list d_l_is_list
  b_l_is_list : Binds K d_l_is_list ["_law_x"] []
  g_l_is_list : mg "_law_is_list" = some (.ref a_l_is_list)
  a_wires : Addr
  d_wires : FuncData
  F_wires : FunD K "_law_wires" "_law_wires" (defArgs s_wires) (defBody s_wires) (defScope s_wires) [] [] a_wires d_wires
  b_wires : Binds K d_wires ["_law_box"] []
  g_wires : mg "_law_wires" = some (.ref a_wires)
  a_l_is_word : Addr
  d_l_is_word : FuncData
  F_l_is_word : FunD K "_law_is_word" "_law_is_word" (defArgs s_l_is_word) (defBody s_l_is_word) (defScope s_l_is_word) [] [] a_l_is_word d_l_is_word
  b_l_is_word : Binds K d_l_is_word ["_law_x"] []
  g_l_is_word : mg "_law_is_word" = some (.ref a_l_is_word)
  a_l_is_ground : Addr
  d_l_is_ground : FuncData
  F_l_is_ground : FunD K "_law_is_ground" "_law_is_ground" (defArgs s_l_is_ground) (defBody s_l_is_ground) (defScope s_l_is_ground) [] [] a_l_is_ground d_l_is_ground
  b_l_is_ground : Binds K d_l_is_ground ["_law_x"] []
  g_l_is_ground : mg "_law_is_ground" = some (.ref a_l_is_ground)
  a_l_is_wire : Addr
  d_l_is_wire : FuncData
  F_l_is_wire : FunD K "_law_is_wire" "_law_is_wire" (defArgs s_l_is_wire) (defBody s_l_is_wire) (defScope s_l_is_wire) [] [] a_l_is_wire d_l_is_wire
  b_l_is_wire : Binds K d_l_is_wire ["_law_x", "_law_names_here"] []
  g_l_is_wire : mg "_law_is_wire" = some (.ref a_l_is_wire)
  a_l_is_box : Addr
  d_l_is_box : FuncData
  F_l_is_box : FunD K "_law_is_box" "_law_is_box" (defArgs s_l_is_box) (defBody s_l_is_box) (defScope s_l_is_box) [] [] a_l_is_box d_l_is_box
  b_l_is_box : Binds K d_l_is_box ["_law_x", "_law_names_here"] []
  g_l_is_box : mg "_law_is_box" = some (.ref a_l_is_box)
  a_made_due : Addr
  d_made_due : FuncData
  F_made_due : FunD K "_law_made_due" "_law_made_due" (defArgs s_made_due) (defBody s_made_due) (defScope s_made_due) [] [] a_made_due d_made_due
  b_made_due : Binds K d_made_due ["_law_boxes", "_law_outputs"] []
  g_made_due : mg "_law_made_due" = some (.ref a_made_due)
  a_is_on_ring : Addr
  d_is_on_ring : FuncData
  F_is_on_ring : FunD K "_law_is_on_ring" "_law_is_on_ring" (defArgs s_is_on_ring) (defBody s_is_on_ring) (defScope s_is_on_ring) [] [] a_is_on_ring d_is_on_ring
  b_is_on_ring : Binds K d_is_on_ring ["_law_boxes", "_law_name"] []
  g_is_on_ring : mg "_law_is_on_ring" = some (.ref a_is_on_ring)
  a_odd_things : Addr
  d_odd_things : FuncData
  F_odd_things : FunD K "_law_odd_things" "_law_odd_things" (defArgs s_odd_things) (defBody s_odd_things) (defScope s_odd_things) [] [] a_odd_things d_odd_things
  b_odd_things : Binds K d_odd_things [] []
  g_odd_things : mg "_law_odd_things" = some (.ref a_odd_things)
  a_bent_wire : Addr
  d_bent_wire : FuncData
  F_bent_wire : FunD K "_law_bent_wire" "_law_bent_wire" (defArgs s_bent_wire) (defBody s_bent_wire) (defScope s_bent_wire) [] [] a_bent_wire d_bent_wire
  b_bent_wire : Binds K d_bent_wire ["_law_state", "_law_wire", "_law_odd"] []
  g_bent_wire : mg "_law_bent_wire" = some (.ref a_bent_wire)
  a_bent_box : Addr
  d_bent_box : FuncData
  F_bent_box : FunD K "_law_bent_box" "_law_bent_box" (defArgs s_bent_box) (defBody s_bent_box) (defScope s_bent_box) [] [] a_bent_box d_bent_box
  b_bent_box : Binds K d_bent_box ["_law_state", "_law_box", "_law_odd"] []
  g_bent_box : mg "_law_bent_box" = some (.ref a_bent_box)
  a_law : Addr
  d_law : FuncData
  F_law : FunD K "law" "law" (defArgs s_law) (defBody s_law) (defScope s_law) [] [] a_law d_law
  b_law : Binds K d_law ["_law_script"] []
  l_Table : Cls K c_Table
  i_Table : Wv.OwnI K c_Table
  k_Table : Mk K c_Table a_Table_init
  o_Table_numbers : NoAttr K c_Table "numbers"
  o_Table_key_rows : NoAttr K c_Table "key_rows"
  o_Table_sizes : NoAttr K c_Table "sizes"
  o_Table_latest : NoAttr K c_Table "latest"
  l_Net : Cls K c_Net
  i_Net : Wv.OwnI K c_Net
  q_Net : Wv.OwnCmp K c_Net a_Net_eq
  k_Net : Mk K c_Net a_Net_init
  o_Net_box_table : NoAttr K c_Net "box_table"
  o_Net_output_table : NoAttr K c_Net "output_table"
  o_Net_order : NoAttr K c_Net "order"
  l_Values : Cls K c_Values
  i_Values : Wv.OwnI K c_Values
  k_Values : Mk K c_Values a_Values_init
  o_Values_net : NoAttr K c_Values "net"
  o_Values_table : NoAttr K c_Values "table"
  o_Values_rows : NoAttr K c_Values "rows"
  e_NetError : ExcC K c_NetError
  x_NetError : PySem.W.excIn K c_NetError veM "ValueError.__new__" = true
  k_NetError : PySem.W.keepIn K (.ref c_NetError) = true
  e_BadBoxes : ExcC K c_BadBoxes
  f_BadBoxes : Addr
  X_BadBoxes : Sx.XTxt K P "thing" c_BadBoxes f_BadBoxes
  y_BadBoxes : XfC K c_BadBoxes
  e_BadBox : ExcC K c_BadBox
  f_BadBox : Addr
  X_BadBox : Sx.XTxt K P "name" c_BadBox f_BadBox
  y_BadBox : XfC K c_BadBox
  e_BadOutputs : ExcC K c_BadOutputs
  f_BadOutputs : Addr
  X_BadOutputs : Sx.XTxt K P "thing" c_BadOutputs f_BadOutputs
  y_BadOutputs : XfC K c_BadOutputs
  e_BadOutput : ExcC K c_BadOutput
  f_BadOutput : Addr
  X_BadOutput : Sx.XTxt K P "name" c_BadOutput f_BadOutput
  y_BadOutput : XfC K c_BadOutput
  e_Ring : ExcC K c_Ring
  f_Ring : Addr
  X_Ring : Sx.XTxt K P "name" c_Ring f_Ring
  y_Ring : XfC K c_Ring
  e_BadTime : ExcC K c_BadTime
  f_BadTime : Addr
  X_BadTime : Sx.XTxt K P "time" c_BadTime f_BadTime
  y_BadTime : XfC K c_BadTime
  e_TooLong : ExcC K c_TooLong
  f_TooLong : Addr
  X_TooLong : Sx.XTxt K P "time" c_TooLong f_TooLong
  y_TooLong : XfC K c_TooLong
  e_BadMeaning : ExcC K c_BadMeaning
  f_BadMeaning : Addr
  X_BadMeaning : Sx.XTxt K P "meaning" c_BadMeaning f_BadMeaning
  y_BadMeaning : XfC K c_BadMeaning
  e_BadNet : ExcC K c_BadNet
  f_BadNet : Addr
  X_BadNet : Sx.XTxt K P "net" c_BadNet f_BadNet
  y_BadNet : XfC K c_BadNet
  e_BadLate : ExcC K c_BadLate
  f_BadLate : Addr
  X_BadLate : Sx.XTxt K P "late" c_BadLate f_BadLate
  y_BadLate : XfC K c_BadLate
  e_BadTimes : ExcC K c_BadTimes
  f_BadTimes : Addr
  X_BadTimes : Sx.XTxt K P "times" c_BadTimes f_BadTimes
  y_BadTimes : XfC K c_BadTimes
  e_BadDistances : ExcC K c_BadDistances
  f_BadDistances : Addr
  X_BadDistances : Sx.XTxt K P "distances" c_BadDistances f_BadDistances
  y_BadDistances : XfC K c_BadDistances
  e_BadPeriod : ExcC K c_BadPeriod
  f_BadPeriod : Addr
  X_BadPeriod : Sx.XTxt K P "period" c_BadPeriod f_BadPeriod
  y_BadPeriod : XfC K c_BadPeriod
  e_HasNet : ExcC K c_HasNet
  f_HasNet : Addr
  X_HasNet : Sx.XTxt K P "period" c_HasNet f_HasNet
  y_HasNet : XfC K c_HasNet
  e_BadInput : ExcC K c_BadInput
  f_BadInput : Addr
  X_BadInput : Sx.XTxt K P "name" c_BadInput f_BadInput
  y_BadInput : XfC K c_BadInput
  e_BadLag : ExcC K c_BadLag
  f_BadLag : Addr
  X_BadLag : Sx.XTxt K P "lag" c_BadLag f_BadLag
  y_BadLag : XfC K c_BadLag
  e_BadText : ExcC K c_BadText
  f_BadText : Addr
  X_BadText : Sx.XTxt K P "line" c_BadText f_BadText
  y_BadText : XfC K c_BadText
  e_BadMany : ExcC K c_BadMany
  f_BadMany : Addr
  X_BadMany : Sx.XTxt K P "many" c_BadMany f_BadMany
  y_BadMany : XfC K c_BadMany
  kx : ∀ (i j : Nat) (C D : Addr), ([c_BadBoxes, c_BadBox, c_BadOutputs, c_BadOutput, c_Ring, c_BadTime, c_TooLong, c_BadMeaning, c_BadNet, c_BadLate, c_BadTimes, c_BadDistances, c_BadPeriod, c_HasNet, c_BadInput, c_BadLag, c_BadText, c_BadMany] : List Addr)[i]? = some C → ([c_BadBoxes, c_BadBox, c_BadOutputs, c_BadOutput, c_Ring, c_BadTime, c_TooLong, c_BadMeaning, c_BadNet, c_BadLate, c_BadTimes, c_BadDistances, c_BadPeriod, c_HasNet, c_BadInput, c_BadLag, c_BadText, c_BadMany] : List Addr)[j]? = some D → PySem.W.kitOne K (.ref C) (.ref D) = some (decide (i = j))
  nx : ∀ C ∈ ([c_BadBoxes, c_BadBox, c_BadOutputs, c_BadOutput, c_Ring, c_BadTime, c_TooLong, c_BadMeaning, c_BadNet, c_BadLate, c_BadTimes, c_BadDistances, c_BadPeriod, c_HasNet, c_BadInput, c_BadLag, c_BadText, c_BadMany] : List Addr), PySem.W.exmOne K (.ref C) (.ref c_NetError) = some true
  h_LETTERS : ∃ t, mg "LETTERS" = some (.str "abcdefghijklmnopqrstuvwxyz" t)
  h_MOST_PARTS : ∃ t, mg "MOST_PARTS" = some (.int 4 t)
  h_MOST_SIZE : ∃ t, mg "MOST_SIZE" = some (.int 1000000 t)
  h_MOST_WIRES : ∃ t, mg "MOST_WIRES" = some (.int 4 t)
  h_MOST_OUTPUTS : ∃ t, mg "MOST_OUTPUTS" = some (.int 4 t)
  h_MOST_TOLD : ∃ t, mg "MOST_TOLD" = some (.int 400 t)
  n_ValueError : mg "ValueError" = none
  n_all : mg "all" = none
  n_bool : mg "bool" = none
  n_dict : mg "dict" = none
  n_enumerate : mg "enumerate" = none
  n_int : mg "int" = none
  n_isinstance : mg "isinstance" = none
  n_len : mg "len" = none
  n_list : mg "list" = none
  n_max : mg "max" = none
  n_min : mg "min" = none
  n_range : mg "range" = none
  n_sorted : mg "sorted" = none
  n_staticmethod : mg "staticmethod" = none
  n_str : mg "str" = none
  n_sum : mg "sum" = none
  n_tuple : mg "tuple" = none
  n_zip : mg "zip" = none
end Lw
namespace Lw
open PySem PySem.Spec PyProof.Rows L2 Evl Wv
section
variable {P : Program} {w : World} {K : PySem.W.Frag} {mg : Str → Option Value} {base : Heap}
def StX (K : PySem.W.Frag) (H : Hp) (s c : Addr) (ns : List Int) : Prop := ∃ n l m, St4 K H s c ns n l m
theorem StX.ex {H H1 : Hp} {s c : Addr} {ns : List Int} (S : StX K H s c ns) (e : Ex H H1) : StX K H1 s c ns := by
  obtain ⟨n, l, m, S⟩ := S
  exact ⟨n, l, m, S.ex e⟩
theorem cut_int (ns : List Int) (lo hi : Option Int) : ∃ ns' : List Int, cutV (ns.map V.int) lo hi = ns'.map V.int ∧ ns'.length ≤ ns.length := by
  unfold cutV
  refine ⟨(ns.drop _).take _, by rw [List.map_take, List.map_drop], ?_⟩
  rw [List.length_take, List.length_drop]
  omega
theorem at_int (ns : List Int) {i : Int} (h0 : 0 ≤ i) (h1 : i < ns.length) : atI (ns.map V.int) i = some (.int (ns.getD i.toNat 0)) := by
  obtain ⟨j, rfl⟩ := Int.eq_ofNat_of_zero_le h0
  have hj : j < ns.length := by omega
  unfold atI
  rw [show ixN (ns.map V.int).length (j : Int) = some j from ixN_nat (by simpa using hj)]
  simp [hj]
theorem fm_pos (a : Int) {b : Int} (h : 0 < b) : 0 ≤ a.fmod b ∧ a.fmod b < b := ⟨Int.fmod_nonneg_of_pos a h, Int.fmod_lt_of_pos a h⟩
def spFresh (K : PySem.W.Frag) : Sp := fun vs H Q _ => ∃ (a : Addr) (ns : List Int), vs = [.ref a] ∧ SqL K H a (ns.map V.int) ∧ ns.length ≤ 63 ∧ ∀ s c ns' H', H s = none → H c = none → H' c ≠ none → Ex H H' → StX K H' s c ns' → Q (.ref s) H'
theorem ok_fresh (T : Txt P K mg) : FnOk P w K mg base CX0 1 T.a_fresh T.d_fresh ["_law_script"] (spFresh K) := by
  refine T.F_fresh.ok sc_fresh (fun vs H Q E h => ?_) (fun cdv A outer s H vs Q E hr h => ⟨_, PSs.nox (pss_one (ps_ret (pe_lst (pa_cons (pe_slice (uSl K) (pv 0) po_none (po_some pe_int)) (pa_cons pe_int (pa_cons pe_int (pa_cons pe_bl pa_nil))))))), ?_⟩)
  · obtain ⟨a, ns, rfl, _⟩ := h
    rfl
  · obtain ⟨a, ns, rfl, hS, hl, hQ⟩ := h
    obtain ⟨ns', e1, e2⟩ := cut_int ns none (some 63)
    refine (el_sl (ev_var rfl) eo_none (eo_some ev_c) hS) H (Ex.refl H) _ fun c H1 hc ex1 h1 => ?_
    refine ⟨by show 4 ≤ sizeLine; decide, fun st hs => ?_⟩
    have hcs : c ≠ st := fun z => by rw [z, hs] at h1; cases h1
    refine hQ st c ns' _ (fresh_back ex1 hs) hc (by rw [Ex.new hs c _ h1]; exact fun z => nomatch z) (ex1.trans (Ex.new hs)) ⟨0, 0, false, hcs, ?_, by omega, upd_same⟩
    rw [← e1]
    exact ex_l (Ex.new hs) (sq_of h1)
def primes : List V := [.int 2147483647, .int 2147483629, .int 2147483587, .int 2147483579, .int 2147483563]
theorem primes_at : ∀ {k : Nat} {x : V}, primes[k]? = some x → k < 5 ∧ ∃ p : Int, x = .int p ∧ 0 < p ∧ p < 2147483648
  | 0, _, h => by cases h; exact ⟨by decide, _, rfl, by decide, by decide⟩
  | 1, _, h => by cases h; exact ⟨by decide, _, rfl, by decide, by decide⟩
  | 2, _, h => by cases h; exact ⟨by decide, _, rfl, by decide, by decide⟩
  | 3, _, h => by cases h; exact ⟨by decide, _, rfl, by decide, by decide⟩
  | 4, _, h => by cases h; exact ⟨by decide, _, rfl, by decide, by decide⟩
  | k + 5, _, h => by cases h
def spFill (K : PySem.W.Frag) : Sp := fun vs H Q _ => ∃ s c ns, vs = [.ref s] ∧ StX K H s c ns ∧ ∀ H', Xs s H H' → StX K H' s c ns → Q .non H'
theorem ok_fill (T : Txt P K mg) : FnOk P w K mg base CX0 1 T.a_fill T.d_fill ["_law_state"] (spFill K) := by
  refine T.F_fill.ok sc_fill (fun vs H Q E h => ?_) (fun cdv A outer s H vs Q E hr h => ⟨_, PSs.nox (pss_cons (ps_par (i := 1) (j := 2) rfl sc_fill.nd rfl rfl (by decide) rfl rfl (pa_cons (pe_ix (uIx K) (pv 0) pe_int (fun _ _ => rfl)) (pa_cons (pe_ix (uIx K) (pv 0) pe_int (fun _ _ => rfl)) pa_nil)) rfl rfl) (pss_cons (ps_set (i := 3) sc_fill.nd rfl (Or.inl rfl) (pe_op (uAdd K) (pe_op uMul pe_int (pv 2)) pe_int)) (pss_cons (ps_if (pt_cmpR op_gt (pe_callB (u_len K) rfl T.n_len (by decide +kernel) (pa_cons (pv 1) pa_nil)) pe_int (nomark _)) (pss_one (ps_set (i := 3) sc_fill.nd rfl (Or.inl rfl) (pe_op (uAdd K) (pe_op uMul pe_int (pe_op op_fdivN (pv 2) (pe_callB (u_len K) rfl T.n_len (by decide +kernel) (pa_cons (pv 1) pa_nil)))) (pe_ix (uIx K) (pv 1) (pe_op op_modN (pe_callTy uC_int rfl T.n_int (by decide +kernel) (pa_cons (pv 2) pa_nil)) (pe_callB (u_len K) rfl T.n_len (by decide +kernel) (pa_cons (pv 1) pa_nil))) (fun _ _ => rfl))))) pss_nil) (pss_cons (ps_asg (pe_op (uAdd K) (pv 2) pe_int) (pg_sub (pv 0) pe_int set_list)) (pss_cons (ps_asg (pe_or (pe_cmpR op_ge (pv 2) (pe_callB (u_len K) rfl T.n_len (by decide +kernel) (pa_cons (pv 1) pa_nil)) (nomark _)) (pe_one (pe_cmpR op_lt (pv 3) (pe_op op_pow pe_int pe_int) (nomark _)))) (pg_sub (pv 0) pe_int set_list)) (pss_cons (ps_asg (pe_op op_sub (pv 3) (pe_op op_pow pe_int pe_int)) (pg_sub (pv 0) pe_int set_list)) (pss_one (ps_if (pt_val (pe_ix (uIx K) (pv 0) pe_int (fun _ _ => rfl))) (pss_cons (ps_asg pe_int (pg_sub (pv 0) pe_int set_list)) (pss_one (ps_for PassesOwn.never rfl (pi_enumT rfl T.n_enumerate (pa_cons (pe_tup (pa_cons pe_int (pa_cons pe_int (pa_cons pe_int (pa_cons pe_int (pa_cons pe_int pa_nil)))))) pa_nil)) (pg_tup rfl (pgs_cons (pg_name (i := 4) sc_fill.nd rfl (Or.inl rfl)) (pgs_cons (pg_name (i := 5) sc_fill.nd rfl (Or.inl rfl)) pgs_nil))) (pss_cons (ps_set (i := 6) sc_fill.nd rfl (Or.inl rfl) (pe_op op_modN (pe_callTy uC_int rfl T.n_int (by decide +kernel) (pa_cons (pe_op uMul (pe_op (uAdd K) (pe_op (uAdd K) (pv 3) (pe_op uMul (pe_op uMul pe_int (pv 4)) (pv 4))) (pe_op uMul pe_int (pv 4))) (pe_op (uAdd K) pe_int (pe_op uMul pe_int (pv 4)))) pa_nil)) (pv 5))) (pss_one (ps_asg (pe_op (uAdd K) (pe_op uMul (pe_ix (uIx K) (pv 0) pe_int (fun _ _ => rfl)) (pv 5)) (pe_op op_modN (pe_callTy uC_int rfl T.n_int (by decide +kernel) (pa_cons (pe_op op_pow (pv 6) pe_int) pa_nil)) (pv 5))) (pg_sub (pv 0) pe_int set_list))))))) pss_nil)))))))), ?_⟩)
  · obtain ⟨a, _, _, rfl, _⟩ := h
    rfl
  · obtain ⟨st, c, ns, rfl, ⟨n, l, m, S⟩, hQ⟩ := h
    refine q_par (ea_cons (S.g0 rfl) (ea_cons (S.g1 rfl) ea_nil)) fun H1 e1 => ?_
    have S1 := S.ex e1
    have x1 : Xs st H H1 := e1.xs
    have hlen : ∀ {σ : L2.St} {H' : Hp}, St4 K H' st c ns n l m → σ[1]? = some (some (.ref c)) → Ev (tCB (rLenS K) (tCons (tVar 1) tNil)) σ H' (.int ((ns.map V.int).length : Int)) := fun S h => ev_len (ev_var h) S.cs
    refine q_asg (ev_add (ev_mul ev_c (ev_var rfl) (.inl ⟨by decide, by decide⟩)) ev_c) fun H2 e2 => ?_
    have S2 := S1.ex e2
    have x2 := x1.trans e2.xs
    have hn : ((ns.map V.int).length : Int) ≤ 63 := by have := S.len; simp; omega
    generalize hL : ((ns.map V.int).length : Int) = L at hn hlen
    refine q_ifAsg (v := .int (if 0 < L then 104729 * n.fdiv L + ns.getD (n.fmod L).toNat 0 else 31 * n + 7)) (et_test (ev_gt (hlen S2 rfl) ev_c)) (fun hb => ?_) (fun hb => ?_) fun H3 e3 => ?_
    · have hpos : 0 < L := of_decide_eq_true hb
      have f := fm_pos n hpos
      rw [if_pos hpos]
      refine ev_add (ev_mul ev_c (ev_fdiv (ev_var rfl) (hlen S2 rfl) ⟨by omega, by omega⟩) (.inl ⟨by decide, by decide⟩)) (ev_ixL (ev_var rfl) (ev_mod (ev_int (ev_var rfl)) (hlen S2 rfl) (by omega)) S2.cs (at_int ns f.1 ?_))
      have : L = ns.length := by rw [← hL]; simp
      omega
    · rw [if_neg (of_decide_eq_false hb)]
      rfl
    generalize (if 0 < L then 104729 * n.fdiv L + ns.getD (n.fmod L).toNat 0 else 31 * n + 7) = seed
    have S3 := S2.ex e3
    have x3 := x2.trans e3.xs
    refine q_st (S3.p1 rfl (ev_add (ev_var rfl) ev_c) fun H4 x4 S4 => ?_)
    refine q_st (S4.p3 rfl (ev_orV (ev_ge (ev_var rfl) (ev_len (ev_var rfl) S4.cs)) fun _ => ev_lt (ev_var rfl) (ev_pow ev_c ev_c ⟨by decide, by decide, by decide⟩)) fun H5 x5 S5 => ?_)
    refine q_st (S5.p2 rfl (ev_sub (ev_var rfl) (ev_pow ev_c ev_c ⟨by decide, by decide, by decide⟩)) fun H6 x6 S6 => ?_)
    have x36 := ((x3.trans x4).trans x5).trans x6
    refine s_if (et_B (S6.g3 rfl)) (fun hb H7 e7 => ?_) (fun hb H7 e7 => hQ _ (x36.trans e7.xs) ⟨_, _, _, S6.ex e7⟩)
    refine q_st ((S6.ex e7).p2 rfl ev_c fun H8 x8 S8 => ?_)
    have x38 := (x36.trans e7.xs).trans x8
    refine s_forET (xs := primes) (ea_cons ev_c (ea_cons ev_c (ea_cons ev_c (ea_cons ev_c (ea_cons ev_c ea_nil))))) (by decide)
      (fun p k σ' H' => ∃ (va vb vc : Option V) (l' : Int) (m' : Bool), σ' = [some (.ref st), some (.ref c), some (.int n), some (.int seed), va, vb, vc] ∧ St4 K H' st c ns (n + 1) l' m' ∧ Xs st H H' ∧ p ≠ st ∧ SqT K H' p primes)
      (fun p H9 hp e9 h9 => ⟨_, _, _, _, _, rfl, S8.ex e9, x38.trans e9.xs, Ne.symm (ne_of_none S8.st hp), st_of h9⟩) (fun p k σ' H' _ ⟨_, _, _, _, _, _, _, _, _, hT⟩ => hT) ?_ ?_
    · intro p k x σ' H' hx ⟨va, vb, vc, l', m', hσ, S9, x9, hp, hT⟩ H10 e10
      subst hσ
      obtain ⟨hk, pr, rfl, p0, p1⟩ := primes_at hx
      have S10 := S9.ex e10
      refine q_asg (ev_mod (ev_int (ev_mul (ev_add (ev_add (ev_var rfl) (ev_mul (ev_mul ev_c (ev_var rfl) (.inl ⟨by decide, by decide⟩)) (ev_var rfl) (.inr ⟨by omega, by omega⟩))) (ev_mul ev_c (ev_var rfl) (.inl ⟨by decide, by decide⟩)))
        (ev_add ev_c (ev_mul ev_c (ev_var rfl) (.inl ⟨by decide, by decide⟩))) (.inr ⟨by omega, by omega⟩))) (ev_var rfl) (by omega)) fun H11 e11 => ?_
      have S11 := S10.ex e11
      have f := fm_pos ((seed + 10007 * (k : Int) * (k : Int) + 101 * (k : Int)) * (48271 + 2 * (k : Int))) p0
      refine S11.p2 rfl (ev_add (ev_mul (S11.g2 rfl) (ev_var rfl) (.inr ⟨by omega, by omega⟩)) (ev_mod (ev_int (ev_pow (ev_var rfl) ev_c ⟨by decide, by decide, by omega⟩)) (ev_var rfl) (by omega))) fun H12 x12 S12 => ?_
      exact ⟨_, _, _, _, _, rfl, S12, ((x9.trans e10.xs).trans e11.xs).trans x12, hp, x12.sqT hp (ex_t (e10.trans e11) hT)⟩
    · intro p σ' H' ⟨va, vb, vc, l', m', hσ, S9, x9, hp, hT⟩
      exact hQ _ x9 ⟨_, _, _, S9⟩
def spTake (K : PySem.W.Frag) : Sp := fun vs H Q _ => ∃ (s c : Addr) (ns : List Int) (many : Int), vs = [.ref s, .int many] ∧ 0 < many ∧ many ≤ 100000 ∧ StX K H s c ns ∧ ∀ (d : Int) H', 0 ≤ d → d < many → Xs s H H' → StX K H' s c ns → Q (.int d) H'
theorem ok_take (T : Txt P K mg) : FnOk P w K mg base CX0 2 T.a_take T.d_take ["_law_state", "_law_many"] (spTake K) := by
  refine T.F_take.ok sc_take (fun vs H Q E h => ?_) (fun cdv A outer s H vs Q E hr h => ⟨_, PSs.nox (pss_cons (ps_set (i := 2) sc_take.nd rfl (Or.inl rfl) pe_int) (pss_cons (ps_while PassesOwn.never (PW.pt (pw_and (pt_cmpR op_lt (pv 2) pe_int (nomark _)) (pw_and1 (PW.pt (pw_or (pt_cmpR (uEq K (hu64 hr)) (pe_ix (uIx K) (pv 0) pe_int (fun _ _ => rfl)) pe_int (nomark _)) (pw_or1 (PW.pt (pw_and (pt_val (pe_ix (uIx K) (pv 0) pe_int (fun _ _ => rfl))) (pw_and1 (pt_cmpR op_lt (pe_ix (uIx K) (pv 0) pe_int (fun _ _ => rfl)) (pe_op uMul (pv 1) pe_int) (nomark _))))))))))) (pss_cons (ps_expr (pe_call (ok_fill T) (hr.mono (by decide)) rfl T.g_fill T.F_fill.kp T.b_fill .nil pass0 (pa_cons (pv 0) pa_nil))) (pss_cons (ps_aug (i := 2) sc_take.nd rfl (Or.inl rfl) pe_int ip_add) (pss_one (ps_if (PW.pt (pw_and (pt_val (pe_ix (uIx K) (pv 0) pe_int (fun _ _ => rfl))) (pw_and1 (pt_cmpR op_lt (pe_ix (uIx K) (pv 0) pe_int (fun _ _ => rfl)) (pe_op uMul (pv 1) pe_int) (nomark _))))) (pss_one (ps_asg (pe_op (uAdd K) (pe_ix (uIx K) (pv 0) pe_int (fun _ _ => rfl)) (pe_op uMul (pe_op uMul (pv 1) pe_int) (pe_op (uAdd K) pe_int (pe_op op_modN (pe_callTy uC_int rfl T.n_int (by decide +kernel) (pa_cons (pe_ix (uIx K) (pv 0) pe_int (fun _ _ => rfl)) pa_nil)) pe_int)))) (pg_sub (pv 0) pe_int set_list))) pss_nil))))) (pss_cons (ps_set (i := 3) sc_take.nd rfl (Or.inl rfl) (pe_op op_modN (pe_callTy uC_int rfl T.n_int (by decide +kernel) (pa_cons (pe_ix (uIx K) (pv 0) pe_int (fun _ _ => rfl)) pa_nil)) (pv 1))) (pss_cons (ps_asg (pe_op op_fdivN (pe_ix (uIx K) (pv 0) pe_int (fun _ _ => rfl)) (pv 1)) (pg_sub (pv 0) pe_int set_list)) (pss_one (ps_ret (pv 3))))))), ?_⟩)
  · obtain ⟨a, _, _, _, rfl, _⟩ := h
    rfl
  · obtain ⟨st, c, ns, many, rfl, m0, m1, S, hQ⟩ := h
    refine q_asg ev_c fun H1 e1 => ?_
    have sm : ∀ {σ : L2.St} {H' : Hp}, σ[1]? = some (some (.int many)) → Ev (tOp rMulU (tVar 1) (tC (.int 4096))) σ H' (.int (many * 4096)) := fun h => ev_mul (ev_var h) ev_c (.inr ⟨by decide, by decide⟩)
    refine q_while (fun m σ' H' => ∃ laps : Nat, m = 64 - laps ∧ laps ≤ 64 ∧ σ' = [some (.ref st), some (.int many), some (.int (laps : Int)), none] ∧ StX K H' st c ns ∧ Xs st H H') 64 ⟨0, rfl, by decide, rfl, S.ex e1, e1.xs⟩ ?_
    rintro m σ' H' ⟨laps, rfl, hl, rfl, ⟨n, l, mx, S⟩, x⟩
    refine ⟨_, et_and (et_test (ev_lt (ev_var rfl) ev_c)) fun _ => et_or (et_test (ev_eq (S.g2 rfl) ev_c rfl)) fun _ => et_and (et_B (S.g3 rfl)) fun _ => et_test (ev_lt (S.g2 rfl) (sm rfl)), fun hb H2 e2 => ?_, fun _ H2 e2 => ?_⟩
    · have hlt : laps < 64 := by
        have z := (Bool.and_eq_true_iff.mp hb).1
        have := of_decide_eq_true z
        omega
      refine ⟨fun σ2 H2 => σ2 = [some (.ref st), some (.int many), some (.int ((laps + 1 : Nat) : Int)), none] ∧ StX K H2 st c ns ∧ Xs st H H2, fun σ2 H3 ⟨h1, h2, h3⟩ => ⟨64 - (laps + 1), by omega, laps + 1, rfl, hlt, h1, h2, h3⟩, ?_⟩
      refine q_st ⟨_, rfl, st, c, ns, rfl, ⟨_, _, _, S.ex e2⟩, fun H3 x3 ⟨n, l, mx, S3⟩ => ?_⟩
      refine q_aug rfl ev_c fun H4 e4 => ?_
      have S4 := S3.ex e4
      have x4 := ((x.trans e2.xs).trans x3).trans e4.xs
      refine s_if (et_and (et_B (S4.g3 rfl)) fun _ => et_test (ev_lt (S4.g2 rfl) (sm rfl))) (fun hb H5 e5 => ?_) (fun hb H5 e5 => ⟨rfl, ⟨_, _, _, S4.ex e5⟩, x4.trans e5.xs⟩)
      have S5 := S4.ex e5
      have f := fm_pos l (b := 4093) (by decide)
      refine S5.p2 rfl (ev_add (S5.g2 rfl) (ev_mul (sm rfl) (ev_add ev_c (ev_mod (ev_int (S5.g2 rfl)) ev_c (by decide))) (.inr ⟨by omega, by omega⟩))) fun H6 x6 S6 => ?_
      exact ⟨rfl, ⟨_, _, _, S6⟩, (x4.trans e5.xs).trans x6⟩
    · have S2 := S.ex e2
      refine q_asg (ev_mod (ev_int (S2.g2 rfl)) (ev_var rfl) (by omega)) fun H3 e3 => ?_
      have S3 := S2.ex e3
      refine q_st (S3.p2 rfl (ev_fdiv (S3.g2 rfl) (ev_var rfl) ⟨by omega, by omega⟩) fun H4 x4 S4 => ?_)
      have f := fm_pos l m0
      exact s_ret (ev_var rfl) fun H5 e5 => hQ _ _ f.1 f.2 ((((x.trans e2.xs).trans e3.xs).trans x4).trans e5.xs) ⟨_, _, _, S4.ex e5⟩
/-! ### the same, told of trees -/
theorem fn_mono {CX : CXT} {k : Nat} {f : Addr} {fd : FuncData} {ps : List Str} {sp sp' : Sp} (F : FnOk P w K mg base CX k f fd ps sp) (h : ∀ vs H Q E, sp' vs H Q E → sp vs H Q E) : FnOk P w K mg base CX k f fd ps sp' :=
  ⟨fun vs H Q E z => F.len vs H Q E (h _ _ _ _ z), fun A outer s H args us vs Q E a b c d z => F.run A outer s H args us vs Q E a b c d (h _ _ _ _ z)⟩
theorem stt_of {so : Option Addr} {O : Addr → Prop} {H : Hp} {v : V} {cc : Ct} (r : Rv so O H v .st) (h : Stt K so cc H) : ∃ s ns, so = some s ∧ v = .ref s ∧ StX K H s cc.cc ns := by
  cases r with
  | st e =>
    subst e
    obtain ⟨ns, n, l, m, S⟩ := h.1
    exact ⟨_, ns, rfl, rfl, n, l, m, S⟩
/-- behind a draw -/
theorem hb_draw {s : Addr} {cc : Ct} {O : Addr → Prop} {lk : Bool} {H H' : Hp} {ns : List Int} (b : Hb K ⟨H, some s, cc, O, lk, lk⟩ H) (x : Xs s H H') (S0 : StX K H s cc.cc ns) (S : StX K H' s cc.cc ns) : Hb K ⟨H, some s, cc, O, lk, lk⟩ H' := by
  obtain ⟨n, l, m, S4⟩ := S
  obtain ⟨n0, l0, m0, S40⟩ := S0
  have th : ∀ a, H a ≠ none → H' a ≠ none := fun a h => by
    by_cases e : a = s
    · rw [e, S4.st]; exact fun z => nomatch z
    · cases q : H a with
      | none => exact absurd q h
      | some o => rw [x a o e q]; exact fun z => nomatch z
  refine ⟨⟨fun a o n h => .inl (x a o (fun e => n (by rw [e]; exact .inl rfl)) h), th⟩, id, b.sO, fun a z => th a (b.dom a z), ⟨ns, n, l, m, S4⟩, fun t ht => ?_⟩
  have hs := S40.st
  obtain ⟨ps, h1, h2, h3⟩ := b.stt.2 t ht
  refine ⟨ps, x _ _ (fun e => by rw [e, hs] at h1; cases h1) h1, h2, fun pos cv hc => ?_⟩
  obtain ⟨c, e1, e2⟩ := h3 pos cv hc
  exact ⟨c, e1, x _ _ (fun e => by rw [e, hs] at e2; cases e2) e2⟩
def RTake : Rd3 := fun ds P _ => ∃ many : Int, ds = [.st, .int many] ∧ (0 < many ∧ many ≤ 100000) ∧ ∀ d : Int, 0 ≤ d → d < many → P (.int d)
theorem w_take (T : Txt P K mg) : FnOk P w K mg base CX0 2 T.a_take T.d_take ["_law_state", "_law_many"] (spW K false RTake) := fn_mono (ok_take T) fun vs H Q E h => by
  obtain ⟨so, cc, O, ds, P, xe, hb, rs, ⟨many, rfl, ⟨h1, h2⟩, hP⟩, hQ, _⟩ := h
  obtain ⟨x, y, rfl, r1, r2⟩ := two_rv rs
  cases int_rv r2
  obtain ⟨s, ns, rfl, rfl, S⟩ := stt_of r1 hb.stt
  exact ⟨s, cc.cc, ns, many, rfl, h1, h2, S, fun d H' h0 h3 x S' => hQ _ _ H' (hP d h0 h3) (hb_draw hb x S S') (.int d)⟩
end
end Lw
namespace Lw
open PySem PySem.Spec PyProof.Rows L2 Evl Wv
section
variable {P : Program} {w : World} {K : PySem.W.Frag} {mg : Str → Option Value} {base : Heap}
/-! ### draws from lists -/
theorem pop_perm : ∀ (ls : List Dt) {j : Nat} (h : j < ls.length), ([ls[j]] ++ ls.eraseIdx j).Perm ls
  | a :: l, 0, _ => List.Perm.refl _
  | a :: l, j + 1, h => by
    have ih := pop_perm l (j := j) (by simpa using h)
    have e : [(a :: l)[j + 1]] ++ (a :: l).eraseIdx (j + 1) = l[j]'(by simpa using h) :: a :: l.eraseIdx j := rfl
    rw [e]
    exact (List.Perm.swap _ _ _).trans (List.Perm.cons a ih)
def ROne : Rd3 := fun ds P _ => ∃ d xs, ds = [.st, d] ∧ itL d = some xs ∧ (0 < xs.length ∧ xs.length ≤ 20000) ∧ ∀ (i : Nat) x, xs[i]? = some x → P x
theorem w_one (T : Txt P K mg) : FnOk P w K mg base CX0 3 T.a_one T.d_one ["_law_state", "_law_things"] (spW K false ROne) := by
  refine T.F_one.ok sc_one (fun vs H Q E h => w_len 2 h fun _ _ _ ⟨_, _, e, _⟩ => by rw [e]; rfl) (fun cdv A outer s H vs Q E hr h => ⟨_, PSs.nox (pss_one (ps_ret (pe_ix (uIxA K (hu64 hr)) (pv 1) (pe_call (w_take T) (hr.mono (by omega)) rfl T.g_take T.F_take.kp T.b_take .nil pass0 (pa_cons (pv 0) (pa_cons (pe_callB (u_lenA K) rfl T.n_len (by decide +kernel) (pa_cons (pv 1) pa_nil)) pa_nil))) (fun _ _ => rfl)))), w_start h 2 rfl fun ds P xe ⟨d, xs, e, hx, ⟨h1, h2⟩, p⟩ => ?_⟩)
  subst e
  refine ⟨Nat.le_of_ble_eq_true rfl, ?_⟩
  repeat' (first | (with_reducible show Et _ _ _ _; first | with_reducible refine et_popAt (by with_unfolding_all rfl) ?_ | with_reducible refine et_var (by with_unfolding_all rfl) ?_ | with_reducible refine et_int ?_ | with_reducible refine et_str ?_ | with_reducible refine et_bl ?_ | with_reducible refine et_non ?_ | with_reducible refine et_andV ?_ | with_reducible refine et_orV ?_ | with_reducible refine et_notV ?_ | with_reducible refine et_if ?_ | with_reducible refine et_isStr ?_ | with_reducible refine et_isInt ?_ | with_reducible refine et_isBool ?_ | with_reducible refine et_isDict ?_ | with_reducible refine et_isList ?_ | with_reducible refine et_isTuple ?_ | with_reducible refine et_isLT ?_ | with_reducible refine et_tup ?_ | with_reducible refine et_neg ?_ | with_reducible refine et_ixO (by with_unfolding_all rfl) ?_ | with_reducible refine et_opL (by first | exact rop_ix | exact rop_eq | exact rop_ne | exact rop_in | exact rop_ni | exact rop_add | exact rop_sub | exact rop_mul | exact rop_lt | exact rop_le | exact rop_gt | exact rop_ge | exact rop_mod | exact rop_div | exact rop_isN | exact rop_notN) (by with_unfolding_all rfl) ?_ | with_reducible refine et_opRo (by first | exact rop_ix | exact rop_eq | exact rop_ne | exact rop_in | exact rop_ni | exact rop_add | exact rop_sub | exact rop_mul | exact rop_lt | exact rop_le | exact rop_gt | exact rop_ge | exact rop_mod | exact rop_div | exact rop_isN | exact rop_notN) (by with_unfolding_all rfl) ?_ | with_reducible refine et_op (by first | exact rop_ix | exact rop_eq | exact rop_ne | exact rop_in | exact rop_ni | exact rop_add | exact rop_sub | exact rop_mul | exact rop_lt | exact rop_le | exact rop_gt | exact rop_ge | exact rop_mod | exact rop_div | exact rop_isN | exact rop_notN) ?_ | with_reducible refine et_cbO (by first | exact rcl_len | exact rcl_int | exact rcl_sum | exact rcl_max | exact rcl_min | exact rcl_all | exact rcl_any) (by with_unfolding_all rfl) ?_ | with_reducible refine et_cb (by first | exact rcl_len | exact rcl_int | exact rcl_sum | exact rcl_max | exact rcl_min | exact rcl_all | exact rcl_any) ?_ | with_reducible refine et_chain (by first | exact rop_ix | exact rop_eq | exact rop_ne | exact rop_in | exact rop_ni | exact rop_add | exact rop_sub | exact rop_mul | exact rop_lt | exact rop_le | exact rop_gt | exact rop_ge | exact rop_mod | exact rop_div | exact rop_isN | exact rop_notN) (by first | exact rop_ix | exact rop_eq | exact rop_ne | exact rop_in | exact rop_ni | exact rop_add | exact rop_sub | exact rop_mul | exact rop_lt | exact rop_le | exact rop_gt | exact rop_ge | exact rop_mod | exact rop_div | exact rop_isN | exact rop_notN) ?_ | with_reducible refine et_dget2 ?_ | with_reducible refine et_call0 nolk ?_ | with_reducible refine et_call0 samelk ?_ | with_reducible refine et_sl ?_) | (with_reducible show Wd _ _ _ _; first | with_reducible refine wd_seq ?_ | with_reducible refine wd_if ?_ | with_reducible refine wd_ret ?_ | with_reducible refine wd_next ?_ | with_reducible refine wd_raise ?_) | (with_reducible show Ea _ _ _ _; first | with_reducible refine ea_nil ?_ | with_reducible refine ea_cons ?_) | (with_reducible show Eb _ _ _ _; first | with_reducible refine eb_or ?_ | with_reducible refine eb_and ?_ | with_reducible refine eb_not ?_ | with_reducible refine eb_B ?_ | with_reducible refine eb_test ?_) | (with_reducible show Eo _ _ _ _; first | with_reducible refine eo_none ?_ | with_reducible refine eo_some ?_) | with_reducible refine isTyI (by first | with_unfolding_all rfl | assumption | exact pur_ok (by assumption)) ?_ | with_reducible refine iteT ?_ | with_reducible refine iteF ?_ | with_reducible refine bt (by first | with_unfolding_all rfl | assumption) ?_ | with_reducible refine bf (by first | with_unfolding_all rfl | assumption) ?_ | with_reducible refine nt (by first | with_unfolding_all rfl | assumption) ?_ | with_reducible refine nf (by first | with_unfolding_all rfl | assumption) ?_ | with_reducible refine fin_s ?_ | with_reducible refine fni_s ?_ | with_reducible refine fx0 (by first | with_unfolding_all rfl | assumption) ?_ | with_reducible refine fx1 (by first | with_unfolding_all rfl | assumption) ?_ | with_reducible refine fx2 (by first | with_unfolding_all rfl | assumption) ?_ | with_reducible refine fxlen (by first | with_unfolding_all rfl | assumption) ?_ | with_reducible refine fxit (by first | with_unfolding_all rfl | assumption) ?_ | with_reducible refine feq_i ?_ | with_reducible refine feq_s ?_ | with_reducible refine fne_i ?_ | with_reducible refine fne_s ?_ | with_reducible refine r1_i (by first | with_unfolding_all rfl | assumption | exact pur_ok (by assumption)) ?_ | with_reducible refine sclI (by with_unfolding_all rfl) ?_ | with_reducible refine lenI (by with_unfolding_all rfl) ?_ | with_reducible refine eI ?_)
  refine ⟨_, rfl, ⟨by omega, by omega⟩, fun k h0 h3 => ?_⟩
  obtain ⟨j, rfl⟩ := Int.eq_ofNat_of_zero_le h0
  have hj : j < xs.length := by omega
  exact fxN (x := xs[j]) hx (by simp [hj]) (p j _ (by simp [hj]))
/-- things in some order -/
def RMix : Rd3 := fun ds P _ => ∃ d xs, ds = [.st, d] ∧ itL d = some xs ∧ (xs.length < 20000 ∧ dats xs = true ∧ deps xs < 50) ∧ ∀ ys : List Dt, ys.Perm xs → P (.lst ys)
theorem w_mix (T : Txt P K mg) : FnOk P w K mg base CX0 3 T.a_mix T.d_mix ["_law_state", "_law_things"] (spW K false RMix) := by
  refine T.F_mix.ok sc_mix (fun vs H Q E h => w_len 2 h fun _ _ _ ⟨_, _, e, _⟩ => by rw [e]; rfl) (fun cdv A outer s H vs Q E hr h => ⟨_, PSs.nox (pss_cons (ps_par (i := 2) (j := 3) rfl sc_mix.nd rfl rfl (by decide) rfl rfl (pa_cons (pe_callTy (u_listA K rfl) rfl T.n_list (by decide +kernel) (pa_cons (pv 1) pa_nil)) (pa_cons (pe_lst pa_nil) pa_nil)) rfl rfl) (pss_cons (ps_while PassesOwn.never (pt_cmpR (uNe K (hu64 hr)) (pv 2) (pe_lst pa_nil) (nomark _)) (pss_one (ps_expr (pe_bm PySem.F.plainAttrs_list PySem.F.slot_list_append PySem.F.type_list_append mt_append (pv 3) (pa_cons (pe_bm PySem.F.plainAttrs_list PySem.F.slot_list_pop PySem.F.type_list_pop mt_popAt (pv 2) (pa_cons (pe_call (w_take T) (hr.mono (by omega)) rfl T.g_take T.F_take.kp T.b_take .nil pass0 (pa_cons (pv 0) (pa_cons (pe_callB (u_lenA K) rfl T.n_len (by decide +kernel) (pa_cons (pv 2) pa_nil)) pa_nil))) pa_nil)) pa_nil))))) (pss_one (ps_ret (pv 3))))), w_start h 4 rfl fun ds P xe ⟨d, xs, e, hx, ⟨h2, hd1, hd2⟩, p⟩ => ?_⟩)
  subst e
  refine ⟨Nat.le_of_ble_eq_true rfl, ?_⟩
  have hl : ∀ k : Dt → Prop, k (.lst xs) → fList d k := fun k z => by
    cases d with
    | lst ys => cases hx; exact z
    | tup ys => cases hx; exact z
    | _ => cases hx
  refine wd_seq (wd_parOO (ef_cb rcf_list (et_var rfl (hl _ (ef_lst (ea_nil ⟨Nat.zero_le _, ?_⟩))))))
  refine wd_seq (wd_while (fun m e => ∃ fs ls : List Dt, e = [.v .st, .v d, .own (.lst ls), .own (.lst fs)] ∧ (fs ++ ls).Perm xs ∧ m = ls.length) xs.length ⟨[], xs, rfl, List.Perm.refl _, rfl⟩ ?_)
  rintro m e ⟨fs, ls, rfl, hp, rfl⟩
  have hlen := hp.length_eq
  rw [List.length_append] at hlen
  have hdl : dats ls = true := dats_of fun x hm => dats_mem hd1 (hp.mem_iff.mp (List.mem_append_right _ hm))
  have hpl : deps ls < 50 := by
    have := deps_le (n := 49) (xs := ls) fun x hm => by have := dep_mem (hp.mem_iff.mp (List.mem_append_right _ hm)); omega
    omega
  refine eb_test (et_opL rop_ne rfl (Ef.et (ef_lst (ea_nil ⟨Nat.zero_le _, _, rfl, fne_nil hdl hpl ⟨rfl, v2 (fun h => ?_) fun h => ?_⟩⟩))))
  · have h0 : 0 < ls.length := by cases ls with
      | nil => cases h
      | cons => exact Nat.succ_pos _
    refine wd_app rfl (et_popAt rfl (et_call0 nolk (ea_cons (et_var rfl (ea_cons (et_cbO rcl_len rfl ⟨rfl, ea_nil ?_⟩))))))
    refine ⟨_, rfl, ⟨by omega, by omega⟩, fun k k0 k1 => ?_⟩
    obtain ⟨j, rfl⟩ := Int.eq_ofNat_of_zero_le k0
    have hj : j < ls.length := by omega
    refine ⟨j, ls, ls[j], rfl, rfl, by simp [hj], fs, rfl, by simp only [Zz]; omega, ls.length - 1, by omega, fs ++ [ls[j]], ls.eraseIdx j, rfl, ?_, ?_⟩
    · rw [List.append_assoc]
      exact ((pop_perm ls hj).append_left fs).trans hp
    · rw [List.length_eraseIdx, if_pos hj]
  · have h0 : ls = [] := by cases ls with
      | nil => rfl
      | cons => cases h
    subst h0
    rw [List.append_nil] at hp
    exact wd_ret (et_own rfl (p fs hp))
end
end Lw
namespace Lw
open PySem PySem.Spec PyProof.Rows L2 Evl Wv
section
variable {P : Program} {w : World} {K : PySem.W.Frag} {mg : Str → Option Value} {base : Heap}
/-! ### is_list, is_word -/
abbrev okT (d : Dt) : Prop := (tyD d).isSome = true
theorem ok_is_list (T : Txt P K mg) : FnOk P w K mg base CX0 1 T.a_is_list T.d_is_list ["thing"] (spW K false (R1 okT fun d => .bl (isL d))) := by
  refine T.F_is_list.ok sc_is_list (fun vs H Q E h => w_len 1 h fun _ _ _ ⟨_, e, _⟩ => by rw [e]; rfl) (fun cdv A outer s H vs Q E hr h => ⟨_, PSs.nox (pss_one (ps_ret (pe_callB (u_isinstance K) rfl T.n_isinstance (by decide +kernel) (pa_cons (pv 0) (pa_cons (pe_tup (pa_cons (pe_bltn (v := .ty "list") rfl T.n_list (by decide +kernel) rfl) (pa_cons (pe_bltn (v := .ty "tuple") rfl T.n_tuple (by decide +kernel) rfl) pa_nil))) pa_nil))))), w_start h 1 rfl fun ds P xe ⟨d, e, hd, p⟩ => ?_⟩)
  subst e
  refine ⟨Nat.le_of_ble_eq_true rfl, ?_⟩
  exact wd_ret (et_isLT (et_var rfl ⟨hd, p⟩))
def LET : Str := "abcdefghijklmnopqrstuvwxyz"
def letD : Dt → Bool
  | .str z => match z.cps.toList with
    | [n] => decide (n ∈ LET.cps.toList)
    | _ => false
  | _ => false
def wordD : Dt → Bool
  | .str z => decide (0 < z.length ∧ z.length < 9) && (strD z).all letD
  | _ => false
theorem ok_is_word (T : Txt P K mg) : FnOk P w K mg base CX0 1 T.a_is_word T.d_is_word ["thing"] (spW K false (R1 okT fun d => .bl (wordD d))) := by
  refine T.F_is_word.ok sc_is_word (fun vs H Q E h => w_len 1 h fun _ _ _ ⟨_, e, _⟩ => by rw [e]; rfl) (fun cdv A outer s H vs Q E hr h => ⟨_, PSs.nox (pss_one (ps_ret (pe_and (pe_callB (u_isinstance K) rfl T.n_isinstance (by decide +kernel) (pa_cons (pv 0) (pa_cons (pe_bltn (v := .ty "str") rfl T.n_str (by decide +kernel) rfl) pa_nil))) (pe_and (pe_chain op_lt op_lt pe_int (pe_callB (u_lenA K) rfl T.n_len (by decide +kernel) (pa_cons (pv 0) pa_nil)) pe_int) (pe_one (pe_callB (u_allA K rfl) rfl T.n_all (by decide +kernel) (pa_cons (pe_lc (own := [("sign", 1)]) (g := gName 1) rfl sc_is_word.nd (pi_anyK (K := K) (pv 0)) (blkOk_by (N := ["thing", "sign"]) (sc := defScope s_is_word) (by decide +kernel)) (fun _ _ _ _ _ => (pg_name (i := 1) sc_is_word.nd rfl (Or.inl rfl))) (fun _ _ _ _ _ => pts_nil) (fun _ _ _ _ _ => (pe_cmpR (uInA K (hu64 hr)) (pv 1) (pe_glob (v := .str "abcdefghijklmnopqrstuvwxyz") rfl T.h_LETTERS.choose_spec ⟨_, rfl⟩) (by with_unfolding_all rfl)))) pa_nil))))))), w_start h 2 rfl fun ds P xe ⟨d, e, hd, p⟩ => ?_⟩)
  subst e
  refine ⟨Nat.le_of_ble_eq_true rfl, ?_⟩
  refine wd_ret (et_andV (et_isStr (et_var rfl ⟨hd, ?_⟩)))
  cases d with
  | str z =>
    have p : P (.bl (wordD (.str z))) := p
    have no : (¬ (0 < z.length ∧ z.length < 9)) → P (.bl false) := fun h => by
      have e : wordD (.str z) = false := by unfold wordD; simp [h]
      rw [e] at p
      exact p
    refine bt rfl (et_andV (et_chain rop_lt rop_lt (et_int (et_cb rcl_len (ea_cons (et_var rfl (ea_nil (b2 (fun h1 => et_int (b2 (fun h2 => ?_) fun h2 => ?_)) fun h1 => ?_))))))))
    · have h1 := of_decide_eq_true h1
      have h2 := of_decide_eq_true h2
      refine et_allY letD (ei_seq (et_var rfl ⟨nown_of rfl (by intro d z; cases z), fun d hd => ?_, ?_⟩))
      · obtain ⟨n, _, rfl⟩ := List.mem_map.mp hd
        exact et_op rop_in (et_var rfl (et_str ⟨n, rfl, rfl, rfl⟩))
      · have e : wordD (.str z) = (strD z).all letD := by
          show (decide (0 < z.length ∧ z.length < 9) && (strD z).all letD) = _
          rw [decide_eq_true (show 0 < z.length ∧ z.length < 9 from ⟨by omega, by omega⟩)]
          rfl
        rw [e] at p
        exact p
    · exact no fun h => of_decide_eq_false h2 (by omega)
    · exact bf rfl (no fun h => of_decide_eq_false h1 (by omega))
  | _ => exact bf rfl p
/-! ### is_ground -/
mutual
def pur : Dt → Bool
  | .lst xs => purs xs
  | .tup xs => purs xs
  | .ins _ _ => false
  | .st => false
  | .dtn _ _ => false
  | _ => true
def purs : List Dt → Bool
  | [] => true
  | x :: xs => pur x && purs xs
end
theorem pur_mem {x : Dt} : ∀ {xs : List Dt}, purs xs = true → x ∈ xs → pur x = true
  | y :: ys, hp, h => by
    unfold purs at hp
    obtain ⟨h1, h2⟩ := Bool.and_eq_true_iff.mp hp
    rcases List.mem_cons.mp h with e | h
    · rw [e]; exact h1
    · exact pur_mem h2 h
theorem pur_ok {d : Dt} (h : pur d = true) : okT d := by
  cases d <;> first | rfl | (unfold pur at h; cases h)
def grF : Nat → Dt → Bool
  | 0, _ => false
  | n + 1, d => wordD d || match itL d with
    | some ds => decide (2 ≤ ds.length ∧ ds.length ≤ 5) && (wordD (ds.headD .non) && (ds.drop 1).all (grF n))
    | none => false
theorem sl1 (ds : List Dt) : ctD ds (some 1) none = ds.drop 1 := by
  unfold ctD
  cases ds with
  | nil => rfl
  | cons x xs =>
    have e1 : HT.sIx (x :: xs).length 0 (some 1) = 1 := by unfold HT.sIx; simp
    have e2 : HT.sIx (x :: xs).length (x :: xs).length none = (x :: xs).length := rfl
    rw [e1, e2]
    simp
theorem ok_is_ground (T : Txt P K mg) (n : Nat) : FnOk P w K mg base CX0 (n + 1) T.a_is_ground T.d_is_ground ["thing"] (spW K false (R1 (fun d => pur d = true ∧ dep d < n) fun d => .bl (grF n d))) := by
  induction n with
  | zero => exact ⟨fun vs H Q E h => w_len 1 h fun _ _ _ ⟨_, e, _⟩ => by rw [e]; rfl, fun A outer s H args us vs Q E _ _ _ _ h => by obtain ⟨_, _, _, _, _, _, _, _, ⟨_, _, h, _⟩, _⟩ := h; omega⟩
  | succ n ih =>
    refine T.F_is_ground.ok sc_is_ground (fun vs H Q E h => w_len 1 h fun _ _ _ ⟨_, e, _⟩ => by rw [e]; rfl) (fun cdv A outer s H vs Q E hr h => ⟨_, PSs.nox (pss_cons (ps_if (pt_val (pe_call (ok_is_word T) (hr.mono (by omega)) rfl T.g_is_word T.F_is_word.kp T.b_is_word .nil pass0 (pa_cons (pv 0) pa_nil))) (pss_one (ps_ret pe_bl)) pss_nil) (pss_cons (ps_if (PW.pt (pw_or (pt_not (pt_val (pe_call (ok_is_list T) (hr.mono (by omega)) rfl T.g_is_list T.F_is_list.kp T.b_is_list .nil pass0 (pa_cons (pv 0) pa_nil)))) (pw_or (pt_not (pt_chain op_le op_le pe_int (pe_callB (u_lenA K) rfl T.n_len (by decide +kernel) (pa_cons (pv 0) pa_nil)) (pe_op (uAdd K) (pe_glob (v := .int 4) rfl T.h_MOST_PARTS.choose_spec ⟨_, rfl⟩) pe_int))) (pw_or1 (pt_not (pt_val (pe_call (ok_is_word T) (hr.mono (by omega)) rfl T.g_is_word T.F_is_word.kp T.b_is_word .nil pass0 (pa_cons (pe_ix (uIxA K (hu64 hr)) (pv 0) pe_int (fun _ _ => rfl)) pa_nil)))))))) (pss_one (ps_ret pe_bl)) pss_nil) (pss_one (ps_ret (pe_callB (u_allA K rfl) rfl T.n_all (by decide +kernel) (pa_cons (pe_lc (own := [("part", 1)]) (g := gName 1) rfl sc_is_ground.nd (pi_anyK (K := K) (pe_slice (uSlA K) (pv 0) (po_some pe_int) po_none)) (blkOk_by (N := ["thing", "part"]) (sc := defScope s_is_ground) (by decide +kernel)) (fun _ _ _ _ _ => (pg_name (i := 1) sc_is_ground.nd rfl (Or.inl rfl))) (fun _ _ _ _ _ => pts_nil) (fun _ _ _ _ _ => (pe_call ih hr rfl T.g_is_ground T.F_is_ground.kp T.b_is_ground .nil pass0 (pa_cons (pv 1) pa_nil)))) pa_nil)))))), w_start h 2 rfl fun ds P xe ⟨d, e, ⟨hp, hd⟩, p⟩ => ?_⟩)
    subst e
    have p : P (.bl (grF (n + 1) d)) := p
    refine ⟨Nat.le_of_ble_eq_true rfl, ?_⟩
    refine wd_seq (wd_if (eb_B (et_call0 nolk (ea_cons (et_var rfl (ea_nil ⟨d, rfl, pur_ok hp, b2 (fun hw => ?_) fun hw => ?_⟩))))))
    · refine wd_ret (et_bl ?_)
      have e : grF (n + 1) d = true := by unfold grF; rw [hw]; rfl
      rw [e] at p
      exact p
    · have no : itL d = none → P (.bl false) := fun h => by
        have e : grF (n + 1) d = false := by unfold grF; rw [hw, h]; rfl
        rw [e] at p
        exact p
      refine wd_next (wd_seq (wd_if (eb_or (eb_not (eb_B (et_call0 nolk (ea_cons (et_var rfl (ea_nil ⟨d, rfl, pur_ok hp, n2 (fun hl => iteT (wd_ret (et_bl ?_))) fun hl => ?_⟩)))))))))
      · exact no (by cases d <;> first | rfl | cases hl)
      · obtain ⟨xs, hx, hlen, hat, hsl⟩ : ∃ xs, itL d = some xs ∧ (∀ k, fLen [d] k = k (.int xs.length)) ∧ (∀ i k, fIx d (.int i) k = ∃ t, atI xs i = some t ∧ k t) ∧ ∀ k, (fSl (some 1) none d fun t => itS t k) = k (xs.drop 1) := by
          cases d with
          | lst xs => exact ⟨xs, rfl, fun _ => rfl, fun _ _ => rfl, fun k => by show k (ctD xs (some 1) none) = _; rw [sl1]⟩
          | tup xs => exact ⟨xs, rfl, fun _ => rfl, fun _ _ => rfl, fun k => by show k (ctD xs (some 1) none) = _; rw [sl1]⟩
          | _ => cases hl
        have hpx : ∀ x ∈ xs, pur x = true ∧ dep x < n := fun x hm => by
          cases d with
          | lst ys => cases hx; unfold pur at hp; unfold dep at hd; exact ⟨pur_mem hp hm, by have := dep_mem hm; omega⟩
          | tup ys => cases hx; unfold pur at hp; unfold dep at hd; exact ⟨pur_mem hp hm, by have := dep_mem hm; omega⟩
          | _ => cases hx
        have eg : grF (n + 1) d = (decide (2 ≤ xs.length ∧ xs.length ≤ 5) && (wordD (xs.headD .non) && (xs.drop 1).all (grF n))) := by
          unfold grF
          rw [hw, hx]
          rfl
        have no2 : (¬ (2 ≤ xs.length ∧ xs.length ≤ 5)) → P (.bl false) := fun h => by
          rw [eg, decide_eq_false h] at p
          exact p
        refine eb_or (eb_not (eb_test (et_chain rop_le rop_le (et_int (et_cb rcl_len (ea_cons (et_var rfl (ea_nil ?_))))))))
        rw [hlen]
        refine b2 (fun h2 => et_op rop_add (et_int (et_int (n2 (fun h3 => iteT (wd_ret (et_bl ?_))) fun h3 => ?_)))) fun h2 => nf rfl (iteT (wd_ret (et_bl ?_)))
        · exact no2 fun h => of_decide_eq_false h3 (by show (xs.length : Int) ≤ 4 + 1; omega)
        · have h2 := of_decide_eq_true h2
          have h3 : (xs.length : Int) ≤ 4 + 1 := of_decide_eq_true h3
          have h5 : 2 ≤ xs.length ∧ xs.length ≤ 5 := by omega
          rw [decide_eq_true h5, Bool.true_and] at eg
          obtain ⟨x0, xr, rfl⟩ : ∃ x0 xr, xs = x0 :: xr := by
            cases xs with
            | nil => simp at h5
            | cons x0 xr => exact ⟨x0, xr, rfl⟩
          refine eb_not (eb_B (et_call0 nolk (ea_cons (et_op rop_ix (et_var rfl (et_int ?_))))))
          rw [hat]
          refine ⟨x0, at0 _ _, ea_nil ⟨x0, rfl, pur_ok (hpx x0 (List.mem_cons_self ..)).1, n2 (fun hw0 => wd_ret (et_bl ?_)) fun hw0 => ?_⟩⟩
          · have e2 : grF (n + 1) d = false := by rw [eg]; show (wordD x0 && _) = false; rw [hw0]; rfl
            rw [e2] at p
            exact p
          · have e2 : grF (n + 1) d = xr.all (grF n) := by
              rw [eg]
              show (wordD x0 && xr.all (grF n)) = _
              rw [hw0]
              rfl
            rw [e2] at p
            refine wd_next (wd_ret (et_allY (grF n) (ei_seq (et_sl (et_var rfl (eo_some (et_int ⟨1, rfl, eo_none ?_⟩)))))))
            rw [hsl]
            exact ⟨nown_of rfl (by intro d z; cases z), fun x hx => et_call0 nolk (ea_cons (et_var rfl (ea_nil ⟨x, rfl, hpx x (List.mem_cons_of_mem _ hx), rfl, rfl⟩))), p⟩
        · exact no2 fun h => of_decide_eq_false h2 (by omega)
/-! ### as_term -/
/-- a term as it is kept: words, and tuples of a word and terms -/
def asF : Nat → Dt → Dt
  | 0, d => d
  | n + 1, d => match itL d with
    | some (x :: xs) => .tup (x :: xs.map (asF n))
    | _ => d
/-- a ground term, in lists or tuples, of nesting below n -/
inductive GtL : Nat → Dt → Prop where
  | word {n : Nat} {z : Str} (h : wordD (.str z) = true) : GtL (n + 1) (.str z)
  | op {n : Nat} {d : Dt} {z : Str} {xs : List Dt} (h : itL d = some (.str z :: xs)) (hz : wordD (.str z) = true) (h1 : 1 ≤ xs.length ∧ xs.length ≤ 4) (he : ∀ x ∈ xs, GtL n x) : GtL (n + 1) d
theorem itL_sl {d : Dt} {xs : List Dt} (h : itL d = some xs) (k : List Dt → Prop) : (fSl (some 1) none d fun t => itS t k) = k (xs.drop 1) := by
  cases d with
  | lst ys => cases h; show k (ctD xs (some 1) none) = _; rw [sl1]
  | tup ys => cases h; show k (ctD xs (some 1) none) = _; rw [sl1]
  | _ => cases h
theorem ok_as_term (T : Txt P K mg) (n : Nat) : FnOk P w K mg base CX0 (n + 1) T.a_as_term T.d_as_term ["thing"] (spW K false (R1 (GtL n) (asF n))) := by
  induction n with
  | zero => exact ⟨fun vs H Q E h => w_len 1 h fun _ _ _ ⟨_, e, _⟩ => by rw [e]; rfl, fun A outer s H args us vs Q E _ _ _ _ h => by obtain ⟨_, _, _, _, _, _, _, _, ⟨_, _, h, _⟩, _⟩ := h; cases h⟩
  | succ n ih =>
    refine T.F_as_term.ok sc_as_term (fun vs H Q E h => w_len 1 h fun _ _ _ ⟨_, e, _⟩ => by rw [e]; rfl) (fun cdv A outer s H vs Q E hr h => ⟨_, PSs.nox (pss_one (ps_ret (pe_ifExp (pt_val (pe_callB (u_isinstance K) rfl T.n_isinstance (by decide +kernel) (pa_cons (pv 0) (pa_cons (pe_bltn (v := .ty "str") rfl T.n_str (by decide +kernel) rfl) pa_nil)))) (pv 0) (pe_callTy (u_tupA K) rfl T.n_tuple (by decide +kernel) (pa_cons (pe_op (uAdd K) (pe_lst (pa_cons (pe_ix (uIxA K (hu64 hr)) (pv 0) pe_int (fun _ _ => rfl)) pa_nil)) (pe_lc (own := [("part", 1)]) (g := gName 1) rfl sc_as_term.nd (pi_anyK (K := K) (pe_slice (uSlA K) (pv 0) (po_some pe_int) po_none)) (blkOk_by (N := ["thing", "part"]) (sc := defScope s_as_term) (by decide +kernel)) (fun _ _ _ _ _ => (pg_name (i := 1) sc_as_term.nd rfl (Or.inl rfl))) (fun _ _ _ _ _ => pts_nil) (fun _ _ _ _ _ => (pe_call ih hr rfl T.g_as_term T.F_as_term.kp T.b_as_term .nil pass0 (pa_cons (pv 1) pa_nil))))) pa_nil))))), w_start h 2 rfl fun ds P xe ⟨d, e, hg, p⟩ => ?_⟩)
    subst e
    refine ⟨Nat.le_of_ble_eq_true rfl, ?_⟩
    have p : P (asF (n + 1) d) := p
    cases hg with
    | word hw => exact wd_ret (et_if (eb_B (et_isStr (et_var rfl ⟨rfl, bt rfl (et_var rfl p)⟩))))
    | @op _ _ z xs h hz h1 he =>
      obtain ⟨i1, i2, i3⟩ := itL_isS h
      refine wd_ret (et_if (eb_B (et_isStr (et_var rfl ⟨i3, bf i1 ?_⟩))))
      refine et_tuple (et_op rop_add (Ef.et (ef_lst (ea_cons (et_op rop_ix (et_var rfl (et_int ?_)))))))
      rw [itL_ix h]
      refine ⟨.str z, at0 _ _, ea_nil ⟨Nat.le_of_ble_eq_true rfl, Ef.et (ef_mapY (asF n) (ei_seq (et_sl (et_var rfl (eo_some (et_int ⟨1, rfl, eo_none ?_⟩))))))⟩⟩
      rw [itL_sl h]
      refine ⟨nown_of rfl (by intro d z; cases z), fun x hx => et_call0 nolk (ea_cons (et_var rfl (ea_nil ⟨x, rfl, he x hx, rfl, rfl⟩))), ?_⟩
      refine ⟨?_, ?_⟩
      · simp only [List.length_map, List.length_drop, List.length_cons, List.length_nil, Zz]; omega
      · have e : asF (n + 1) d = .tup (.str z :: xs.map (asF n)) := by unfold asF; rw [h]
        rw [e] at p
        exact p
end
end Lw
namespace Lw
open PySem PySem.Spec PyProof.Rows L2 Evl Wv
section
variable {P : Program} {w : World} {K : PySem.W.Frag} {mg : Str → Option Value} {base : Heap}
/-! ### wires -/
theorem nb {A B : Prop} {b : Bool} (h1 : b = true → A) (h2 : b = false → B) : isB (.bl b) fun b => if b = true then A else B := Wv.b2 h1 h2
def inK (kvs : List (Key × Dt)) : Dt → Bool
  | .str q => (dlk kvs (.inr q)).isSome
  | _ => false
def allG : Dt → Bool := fun b => match itL b with
  | some ts => ts.all (grF 9)
  | none => false
def wireF (kvs : List (Key × Dt)) (d : Dt) : Bool := match itL d with
  | some [a, b] => inK kvs a && allG b
  | _ => false
theorem itL_mem {d : Dt} {xs : List Dt} (h : itL d = some xs) (hp : pur d = true) : ∀ x ∈ xs, pur x = true ∧ dep x < dep d := fun x hm => by
  cases d with
  | lst ys => cases h; unfold pur at hp; exact ⟨pur_mem hp hm, by rw [dep_lst]; have := dep_mem hm; omega⟩
  | tup ys => cases h; unfold pur at hp; exact ⟨pur_mem hp hm, by rw [dep_tup]; have := dep_mem hm; omega⟩
  | _ => cases h
theorem ok_is_wire (T : Txt P K mg) : FnOk P w K mg base CX0 11 T.a_is_wire T.d_is_wire ["thing", "boxes"] (spW K false fun ds P _ => ∃ d kvs, ds = [d, .dct kvs] ∧ (pur d = true ∧ dep d < 10) ∧ P (.bl (wireF kvs d))) := by
  refine T.F_is_wire.ok sc_is_wire (fun vs H Q E h => w_len 2 h fun _ _ _ ⟨_, _, e, _⟩ => by rw [e]; rfl) (fun cdv A outer s H vs Q E hr h => ⟨_, PSs.nox (pss_cons (ps_if (PW.pt (pw_or (pt_not (pt_val (pe_call (ok_is_list T) (hr.mono (by omega)) rfl T.g_is_list T.F_is_list.kp T.b_is_list .nil pass0 (pa_cons (pv 0) pa_nil)))) (pw_or (pt_cmpR (uNe K (hu64 hr)) (pe_callB (u_lenA K) rfl T.n_len (by decide +kernel) (pa_cons (pv 0) pa_nil)) pe_int (nomark _)) (pw_or (pt_not (pt_val (pe_callB (u_isinstance K) rfl T.n_isinstance (by decide +kernel) (pa_cons (pe_ix (uIxA K (hu64 hr)) (pv 0) pe_int (fun _ _ => rfl)) (pa_cons (pe_bltn (v := .ty "str") rfl T.n_str (by decide +kernel) rfl) pa_nil))))) (pw_or1 (pt_cmpR (uNiA K (hu64 hr)) (pe_ix (uIxA K (hu64 hr)) (pv 0) pe_int (fun _ _ => rfl)) (pv 1) (by with_unfolding_all rfl))))))) (pss_one (ps_ret pe_bl)) pss_nil) (pss_one (ps_ret (pe_and (pe_call (ok_is_list T) (hr.mono (by omega)) rfl T.g_is_list T.F_is_list.kp T.b_is_list .nil pass0 (pa_cons (pe_ix (uIxA K (hu64 hr)) (pv 0) pe_int (fun _ _ => rfl)) pa_nil)) (pe_one (pe_callB (u_allA K rfl) rfl T.n_all (by decide +kernel) (pa_cons (pe_lc (own := [("term", 2)]) (g := gName 2) rfl sc_is_wire.nd (pi_anyK (K := K) (pe_ix (uIxA K (hu64 hr)) (pv 0) pe_int (fun _ _ => rfl))) (blkOk_by (N := ["thing", "boxes", "term"]) (sc := defScope s_is_wire) (by decide +kernel)) (fun _ _ _ _ _ => (pg_name (i := 2) sc_is_wire.nd rfl (Or.inl rfl))) (fun _ _ _ _ _ => pts_nil) (fun _ _ _ _ _ => (pe_call (ok_is_ground T 9) hr rfl T.g_is_ground T.F_is_ground.kp T.b_is_ground .nil pass0 (pa_cons (pv 2) pa_nil)))) pa_nil))))))), w_start h 3 rfl fun ds P xe ⟨d, kvs, e, ⟨hp, hd⟩, p⟩ => ?_⟩)
  subst e
  refine ⟨Nat.le_of_ble_eq_true rfl, ?_⟩
  refine wd_seq (wd_if (eb_or (eb_not (eb_B (et_call0 nolk (ea_cons (et_var rfl (ea_nil ⟨d, rfl, pur_ok hp, n2 (fun hl => iteT (wd_ret (et_bl ?_))) fun hl => ?_⟩))))))))
  · have e : wireF kvs d = false := by unfold wireF; rw [isL_no hl]
    rw [e] at p
    exact p
  · obtain ⟨xs, h⟩ := isL_it hl
    have hm := itL_mem h hp
    refine eb_or (eb_test (et_op rop_ne (et_cb rcl_len (ea_cons (et_var rfl (ea_nil ?_))))))
    rw [itL_len h]
    refine et_int (v2 (fun h2 => iteT (wd_ret (et_bl ?_))) fun h2 => ?_)
    · have e : wireF kvs d = false := by
        unfold wireF
        rw [h]
        match xs, h2 with
        | [], _ => rfl
        | [_], _ => rfl
        | [_, _], h2 => cases h2
        | _ :: _ :: _ :: _, _ => rfl
      rw [e] at p
      exact p
    · have h2 : xs.length = 2 := by have := of_decide_eq_true h2; omega
      obtain ⟨a, b, rfl⟩ : ∃ a b, xs = [a, b] := by
        match xs, h2 with
        | [a, b], _ => exact ⟨a, b, rfl⟩
      have ew : wireF kvs d = (inK kvs a && allG b) := by unfold wireF; rw [h]
      rw [ew] at p
      have ha := hm a (by simp)
      have hb := hm b (by simp)
      have rest : inK kvs a = true → Wd ⟨K, E, xe, false, []⟩ [.v d, .v (.dct kvs), .no] (tRet (tAndV (tCall (spW K false (R1 okT fun d => .bl (isL d))) [] E0 (tCons (tOp (rIxA K) (tVar 0) (tC (.int 1))) tNil)) (tCB (rAll K) (tCons (tLc (iAny K (tOp (rIxA K) (tVar 0) (tC (.int 1)))) (gName 2) tYes (tCall (spW K false (R1 (fun d => pur d = true ∧ dep d < 9) fun d => .bl (grF 9 d))) [] E0 (tCons (tVar 2) tNil)) [2]) tNil)))) { nx := fun _ => P .non, rt := P } := fun hk => by
        rw [hk, Bool.true_and] at p
        refine wd_ret (et_andV (et_call0 nolk (ea_cons (et_op rop_ix (et_var rfl (et_int ?_))))))
        rw [itL_ix h]
        refine ⟨b, rfl, ea_nil ⟨b, rfl, pur_ok hb.1, Wv.b2 (fun hl2 => ?_) fun hl2 => ?_⟩⟩
        · obtain ⟨ts, h3⟩ := isL_it hl2
          have hm3 := itL_mem h3 hb.1
          refine et_allY (grF 9) (ei_seq (et_op rop_ix (et_var rfl (et_int ?_))))
          rw [itL_ix h]
          refine ⟨b, rfl, ?_⟩
          rw [itL_it h3]
          refine ⟨nown_of rfl (by intro d z; cases z), fun x hx => et_call0 nolk (ea_cons (et_var rfl (ea_nil ⟨x, rfl, ⟨(hm3 x hx).1, by have := (hm3 x hx).2; omega⟩, rfl, rfl⟩))), ?_⟩
          have e : allG b = ts.all (grF 9) := by unfold allG; rw [h3]
          rw [e] at p
          exact p
        · have e : allG b = false := by unfold allG; rw [isL_no hl2]
          rw [e] at p
          exact p
      refine eb_or (eb_not (eb_B (et_isStr (et_op rop_ix (et_var rfl (et_int ?_))))))
      rw [itL_ix h]
      refine ⟨a, rfl, pur_ok ha.1, n2 (fun hs => iteT (wd_ret (et_bl ?_))) fun hs => ?_⟩
      · have e : inK kvs a = false := by cases a <;> first | rfl | cases hs
        rw [e] at p
        exact p
      · obtain ⟨q, rfl⟩ : ∃ q, a = .str q := by
          cases a with
          | str q => exact ⟨q, rfl⟩
          | _ => cases hs
        refine eb_test (et_op rop_ni (et_op rop_ix (et_var rfl (et_int ?_))))
        rw [itL_ix h]
        refine ⟨.str q, rfl, et_var rfl (v2 (fun hk => wd_ret (et_bl ?_)) fun hk => wd_next (rest hk))⟩
        rw [show inK kvs (.str q) = false from hk] at p
        exact p
end
end Lw
namespace Lw
open PySem PySem.Spec PyProof.Rows L2 Evl Wv
set_option hygiene false in
local macro_rules
  | `(tactic| nofun) => `(tactic| repeat' (first | (with_reducible show Et _ _ _ _; first | with_reducible refine et_popAt (by with_unfolding_all rfl) ?_ | with_reducible refine et_var (by with_unfolding_all rfl) ?_ | with_reducible refine et_int ?_ | with_reducible refine et_str ?_ | with_reducible refine et_bl ?_ | with_reducible refine et_non ?_ | with_reducible refine et_andV ?_ | with_reducible refine et_orV ?_ | with_reducible refine et_notV ?_ | with_reducible refine et_if ?_ | with_reducible refine et_isStr ?_ | with_reducible refine et_isInt ?_ | with_reducible refine et_isBool ?_ | with_reducible refine et_isDict ?_ | with_reducible refine et_isList ?_ | with_reducible refine et_isTuple ?_ | with_reducible refine et_isLT ?_ | with_reducible refine et_tup ?_ | with_reducible refine et_neg ?_ | with_reducible refine et_ixO (by with_unfolding_all rfl) ?_ | with_reducible refine et_opL (by first | exact rop_ix | exact rop_eq | exact rop_ne | exact rop_in | exact rop_ni | exact rop_add | exact rop_sub | exact rop_mul | exact rop_lt | exact rop_le | exact rop_gt | exact rop_ge | exact rop_mod | exact rop_div | exact rop_isN | exact rop_notN) (by with_unfolding_all rfl) ?_ | with_reducible refine et_opRo (by first | exact rop_ix | exact rop_eq | exact rop_ne | exact rop_in | exact rop_ni | exact rop_add | exact rop_sub | exact rop_mul | exact rop_lt | exact rop_le | exact rop_gt | exact rop_ge | exact rop_mod | exact rop_div | exact rop_isN | exact rop_notN) (by with_unfolding_all rfl) ?_ | with_reducible refine et_op (by first | exact rop_ix | exact rop_eq | exact rop_ne | exact rop_in | exact rop_ni | exact rop_add | exact rop_sub | exact rop_mul | exact rop_lt | exact rop_le | exact rop_gt | exact rop_ge | exact rop_mod | exact rop_div | exact rop_isN | exact rop_notN) ?_ | with_reducible refine et_cbO (by first | exact rcl_len | exact rcl_int | exact rcl_sum | exact rcl_max | exact rcl_min | exact rcl_all | exact rcl_any) (by with_unfolding_all rfl) ?_ | with_reducible refine et_cb (by first | exact rcl_len | exact rcl_int | exact rcl_sum | exact rcl_max | exact rcl_min | exact rcl_all | exact rcl_any) ?_ | with_reducible refine et_chain (by first | exact rop_ix | exact rop_eq | exact rop_ne | exact rop_in | exact rop_ni | exact rop_add | exact rop_sub | exact rop_mul | exact rop_lt | exact rop_le | exact rop_gt | exact rop_ge | exact rop_mod | exact rop_div | exact rop_isN | exact rop_notN) (by first | exact rop_ix | exact rop_eq | exact rop_ne | exact rop_in | exact rop_ni | exact rop_add | exact rop_sub | exact rop_mul | exact rop_lt | exact rop_le | exact rop_gt | exact rop_ge | exact rop_mod | exact rop_div | exact rop_isN | exact rop_notN) ?_ | with_reducible refine et_dget2 ?_ | with_reducible refine et_call0 nolk ?_ | with_reducible refine et_call0 samelk ?_ | with_reducible refine et_sl ?_) | (with_reducible show Wd _ _ _ _; first | with_reducible refine wd_seq ?_ | with_reducible refine wd_if ?_ | with_reducible refine wd_ret ?_ | with_reducible refine wd_next ?_ | with_reducible refine wd_raise ?_) | (with_reducible show Ea _ _ _ _; first | with_reducible refine ea_nil ?_ | with_reducible refine ea_cons ?_) | (with_reducible show Eb _ _ _ _; first | with_reducible refine eb_or ?_ | with_reducible refine eb_and ?_ | with_reducible refine eb_not ?_ | with_reducible refine eb_B ?_ | with_reducible refine eb_test ?_) | (with_reducible show Eo _ _ _ _; first | with_reducible refine eo_none ?_ | with_reducible refine eo_some ?_) | with_reducible refine isTyI (by first | with_unfolding_all rfl | assumption | exact pur_ok (by assumption)) ?_ | with_reducible refine iteT ?_ | with_reducible refine iteF ?_ | with_reducible refine bt (by first | with_unfolding_all rfl | assumption) ?_ | with_reducible refine bf (by first | with_unfolding_all rfl | assumption) ?_ | with_reducible refine nt (by first | with_unfolding_all rfl | assumption) ?_ | with_reducible refine nf (by first | with_unfolding_all rfl | assumption) ?_ | with_reducible refine fin_s ?_ | with_reducible refine fni_s ?_ | with_reducible refine fx0 (by first | with_unfolding_all rfl | assumption) ?_ | with_reducible refine fx1 (by first | with_unfolding_all rfl | assumption) ?_ | with_reducible refine fx2 (by first | with_unfolding_all rfl | assumption) ?_ | with_reducible refine fxlen (by first | with_unfolding_all rfl | assumption) ?_ | with_reducible refine fxit (by first | with_unfolding_all rfl | assumption) ?_ | with_reducible refine feq_i ?_ | with_reducible refine feq_s ?_ | with_reducible refine fne_i ?_ | with_reducible refine fne_s ?_ | with_reducible refine r1_i (by first | with_unfolding_all rfl | assumption | exact pur_ok (by assumption)) ?_ | with_reducible refine sclI (by with_unfolding_all rfl) ?_ | with_reducible refine lenI (by with_unfolding_all rfl) ?_ | with_reducible refine eI ?_))
section
variable {P : Program} {w : World} {K : PySem.W.Frag} {mg : Str → Option Value} {base : Heap}
/-! ### as_wire -/
/-- a wire as it is kept -/
def aswF (d : Dt) : Dt := match itL d with
  | some [a, b] => match itL b with
    | some ts => .tup [a, .lst (ts.map (asF 9))]
    | none => d
  | _ => d
theorem grF_gt : ∀ {n : Nat} {d : Dt}, grF n d = true → GtL n d
  | 0, _, h => nomatch h
  | n + 1, d, h => by
    unfold grF at h
    cases hw : wordD d with
    | true =>
      cases d with
      | str z => exact .word hw
      | _ => cases hw
    | false =>
      rw [hw, Bool.false_or] at h
      cases e : itL d with
      | none => rw [e] at h; cases h
      | some ds =>
        rw [e] at h
        simp only [Bool.and_eq_true, decide_eq_true_eq] at h
        obtain ⟨h1, h2, h3⟩ := h
        match ds, h1 with
        | x :: xs, h1 =>
          have h2 : wordD x = true := h2
          cases x with
          | str z => exact .op e h2 (by simp only [List.length_cons] at h1; omega) fun y hy => grF_gt (List.all_eq_true.mp h3 y hy)
          | _ => cases h2
theorem wireF_inv {kvs : List (Key × Dt)} {d : Dt} (h : wireF kvs d = true) : ∃ q b ts, itL d = some [.str q, b] ∧ (dlk kvs (.inr q)).isSome = true ∧ itL b = some ts ∧ ∀ x ∈ ts, grF 9 x = true := by
  unfold wireF at h
  cases e : itL d with
  | none => rw [e] at h; cases h
  | some xs =>
    rw [e] at h
    match xs, h with
    | [a, b], h =>
      obtain ⟨h1, h2⟩ := Bool.and_eq_true_iff.mp h
      cases a with
      | str q =>
        unfold allG at h2
        cases e2 : itL b with
        | none => rw [e2] at h2; cases h2
        | some ts => rw [e2] at h2; exact ⟨q, b, ts, rfl, h1, e2, fun x hx => List.all_eq_true.mp h2 x hx⟩
      | _ => cases h1
theorem ok_as_wire (T : Txt P K mg) : FnOk P w K mg base CX0 11 T.a_as_wire T.d_as_wire ["thing"] (spW K false (R1 (fun d => ∃ kvs, wireF kvs d = true) aswF)) := by
  refine T.F_as_wire.ok sc_as_wire (fun vs H Q E h => w_len 1 h fun _ _ _ ⟨_, e, _⟩ => by rw [e]; rfl) (fun cdv A outer s H vs Q E hr h => ⟨_, PSs.nox (pss_one (ps_ret (pe_tup (pa_cons (pe_ix (uIxA K (hu64 hr)) (pv 0) pe_int (fun _ _ => rfl)) (pa_cons (pe_lc (own := [("term", 1)]) (g := gName 1) rfl sc_as_wire.nd (pi_anyK (K := K) (pe_ix (uIxA K (hu64 hr)) (pv 0) pe_int (fun _ _ => rfl))) (blkOk_by (N := ["thing", "term"]) (sc := defScope s_as_wire) (by decide +kernel)) (fun _ _ _ _ _ => (pg_name (i := 1) sc_as_wire.nd rfl (Or.inl rfl))) (fun _ _ _ _ _ => pts_nil) (fun _ _ _ _ _ => (pe_call (ok_as_term T 9) hr rfl T.g_as_term T.F_as_term.kp T.b_as_term .nil pass0 (pa_cons (pv 1) pa_nil)))) pa_nil))))), w_start h 2 rfl fun ds P xe ⟨d, e, ⟨kvs, hw⟩, p⟩ => ?_⟩)
  subst e
  obtain ⟨q, b, ts, h1, _, h2, h3⟩ := wireF_inv hw
  refine ⟨Nat.le_of_ble_eq_true rfl, ?_⟩
  have ea : aswF d = .tup [.str q, .lst (ts.map (asF 9))] := by unfold aswF; rw [h1]; show (match itL b with | some ts => _ | none => _) = _; rw [h2]
  rw [ea] at p
  nofun
  refine Ef.et (ef_mapY (asF 9) (ei_seq ?_))
  nofun
  refine ⟨nown_no rfl, fun x hx => ?_, ?_⟩
  · nofun
    exact r1_i (grF_gt (h3 x hx)) ⟨rfl, rfl⟩
  · nofun
    exact p
/-! ### is_box -/
/-- what is_box tells -/
def boxF (kvs ws : List (Key × Dt)) (d : Dt) : Bool := match itL d with
  | some [a, b] => isS a && (wordD b && eqF a (.str "in"))
  | some [a, f, c] => isS a && (wordD f && (eqF a (.str "op") && match itL c with
    | some l => decide (1 ≤ l.length ∧ l.length ≤ 4) && (l.all (wireF kvs) && match f with
      | .str z => eqF ((dlk ws (.inr z)).getD (.int l.length)) (.int l.length)
      | _ => false)
    | none => false))
  | _ => false
theorem ok_is_box (T : Txt P K mg) : FnOk P w K mg base CX0 12 T.a_is_box T.d_is_box ["thing", "boxes", "wires_of"] (spW K false fun ds P _ => ∃ d kvs ws, ds = [d, .dct kvs, .dct ws] ∧ (pur d = true ∧ dep d < 12) ∧ (∀ k t, dlk ws k = some t → ∃ i, t = .int i) ∧ P (.bl (boxF kvs ws d))) := by
  refine T.F_is_box.ok sc_is_box (fun vs H Q E h => w_len 3 h fun _ _ _ ⟨_, _, _, e, _⟩ => by rw [e]; rfl) (fun cdv A outer s H vs Q E hr h => ⟨_, PSs.nox (pss_cons (ps_if (PW.pt (pw_or (pt_not (pt_val (pe_call (ok_is_list T) (hr.mono (by omega)) rfl T.g_is_list T.F_is_list.kp T.b_is_list .nil pass0 (pa_cons (pv 0) pa_nil)))) (pw_or (pt_cmpR (uNiA K (hu64 hr)) (pe_callB (u_lenA K) rfl T.n_len (by decide +kernel) (pa_cons (pv 0) pa_nil)) (pe_tup (pa_cons pe_int (pa_cons pe_int pa_nil))) (by with_unfolding_all rfl)) (pw_or (pt_not (pt_val (pe_callB (u_isinstance K) rfl T.n_isinstance (by decide +kernel) (pa_cons (pe_ix (uIxA K (hu64 hr)) (pv 0) pe_int (fun _ _ => rfl)) (pa_cons (pe_bltn (v := .ty "str") rfl T.n_str (by decide +kernel) rfl) pa_nil))))) (pw_or1 (pt_not (pt_val (pe_call (ok_is_word T) (hr.mono (by omega)) rfl T.g_is_word T.F_is_word.kp T.b_is_word .nil pass0 (pa_cons (pe_ix (uIxA K (hu64 hr)) (pv 0) pe_int (fun _ _ => rfl)) pa_nil))))))))) (pss_one (ps_ret pe_bl)) pss_nil) (pss_cons (ps_if (pt_cmpR (uEq K (hu64 hr)) (pe_callB (u_lenA K) rfl T.n_len (by decide +kernel) (pa_cons (pv 0) pa_nil)) pe_int (nomark _)) (pss_one (ps_ret (pe_cmpR (uEq K (hu64 hr)) (pe_ix (uIxA K (hu64 hr)) (pv 0) pe_int (fun _ _ => rfl)) pe_str (nomark _)))) pss_nil) (pss_cons (ps_if (PW.pt (pw_or (pt_cmpR (uNe K (hu64 hr)) (pe_ix (uIxA K (hu64 hr)) (pv 0) pe_int (fun _ _ => rfl)) pe_str (nomark _)) (pw_or (pt_not (pt_val (pe_call (ok_is_list T) (hr.mono (by omega)) rfl T.g_is_list T.F_is_list.kp T.b_is_list .nil pass0 (pa_cons (pe_ix (uIxA K (hu64 hr)) (pv 0) pe_int (fun _ _ => rfl)) pa_nil)))) (pw_or1 (pt_not (pt_chain op_le op_le pe_int (pe_callB (u_lenA K) rfl T.n_len (by decide +kernel) (pa_cons (pe_ix (uIxA K (hu64 hr)) (pv 0) pe_int (fun _ _ => rfl)) pa_nil)) (pe_glob (v := .int 4) rfl T.h_MOST_WIRES.choose_spec ⟨_, rfl⟩))))))) (pss_one (ps_ret pe_bl)) pss_nil) (pss_one (ps_ret (pe_and (pe_callB (u_allA K rfl) rfl T.n_all (by decide +kernel) (pa_cons (pe_lc (own := [("wire", 3)]) (g := gName 3) rfl sc_is_box.nd (pi_anyK (K := K) (pe_ix (uIxA K (hu64 hr)) (pv 0) pe_int (fun _ _ => rfl))) (blkOk_by (N := ["thing", "boxes", "wires_of", "wire"]) (sc := defScope s_is_box) (by decide +kernel)) (fun _ _ _ _ _ => (pg_name (i := 3) sc_is_box.nd rfl (Or.inl rfl))) (fun _ _ _ _ _ => pts_nil) (fun _ _ _ _ _ => (pe_call (ok_is_wire T) (hr.mono (by omega)) rfl T.g_is_wire T.F_is_wire.kp T.b_is_wire .nil pass0 (pa_cons (pv 3) (pa_cons (pv 1) pa_nil))))) pa_nil)) (pe_one (pe_cmpR (uEq K (hu64 hr)) (pe_dget2 (hu_of hr) (pv 2) (pe_ix (uIxA K (hu64 hr)) (pv 0) pe_int (fun _ _ => rfl)) (pe_callB (u_lenA K) rfl T.n_len (by decide +kernel) (pa_cons (pe_ix (uIxA K (hu64 hr)) (pv 0) pe_int (fun _ _ => rfl)) pa_nil)) ⟨rfl, rfl, rfl, rfl⟩) (pe_callB (u_lenA K) rfl T.n_len (by decide +kernel) (pa_cons (pe_ix (uIxA K (hu64 hr)) (pv 0) pe_int (fun _ _ => rfl)) pa_nil)) (nomark _))))))))), w_start h 4 rfl fun ds P xe ⟨d, kvs, ws, e, ⟨hp, hd⟩, hws, p⟩ => ?_⟩)
  subst e
  refine ⟨Nat.le_of_ble_eq_true rfl, ?_⟩
  refine wd_seq (wd_if (eb_or (eb_not (eb_B (et_call0 nolk (ea_cons (et_var rfl (ea_nil ⟨d, rfl, pur_ok hp, n2 (fun hl => iteT (wd_ret (et_bl ?_))) fun hl => ?_⟩))))))))
  · have e : boxF kvs ws d = false := by unfold boxF; rw [isL_no hl]
    rw [e] at p
    exact p
  obtain ⟨xs, h⟩ := isL_it hl
  have hm := itL_mem h hp
  refine eb_or (eb_test (et_op rop_ni (et_cb rcl_len (ea_cons (et_var rfl (ea_nil ?_))))))
  rw [itL_len h]
  refine et_tup (ea_cons (et_int (ea_cons (et_int (ea_nil ⟨by decide, rfl, rfl, ?_⟩)))))
  have ein : ([Dt.int 2, Dt.int 3].any fun e => eqF e (.int xs.length)) = (decide (xs.length = 2) || decide (xs.length = 3)) := by
    show ((2 == (xs.length : Int)) || ((3 == (xs.length : Int)) || false)) = _
    rw [Bool.or_false]
    have e2 : ((2 : Int) == (xs.length : Int)) = decide (xs.length = 2) := by
      by_cases z : xs.length = 2
      · rw [z]; rfl
      · rw [decide_eq_false z]; exact beq_eq_false_iff_ne.mpr (by omega)
    have e3 : ((3 : Int) == (xs.length : Int)) = decide (xs.length = 3) := by
      by_cases z : xs.length = 3
      · rw [z]; rfl
      · rw [decide_eq_false z]; exact beq_eq_false_iff_ne.mpr (by omega)
    rw [e2, e3]
  rw [ein]
  refine v2 (fun hn => iteT (wd_ret (et_bl ?_))) fun hn => ?_
  · have e : boxF kvs ws d = false := by
      unfold boxF
      rw [h]
      match xs, hn with
      | [], _ => rfl
      | [_], _ => rfl
      | [_, _], hn => cases hn
      | [_, _, _], hn => cases hn
      | _ :: _ :: _ :: _ :: _, _ => rfl
    rw [e] at p
    exact p
  obtain ⟨a, f, r, rfl, hr3⟩ : ∃ a f r, xs = a :: f :: r ∧ (r = [] ∨ ∃ c, r = [c]) := by
    match xs, hn with
    | [], hn => cases hn
    | [_], hn => cases hn
    | [a, f], _ => exact ⟨a, f, [], rfl, .inl rfl⟩
    | [a, f, c], _ => exact ⟨a, f, [c], rfl, .inr ⟨c, rfl⟩⟩
    | _ :: _ :: _ :: _ :: _, hn => simp at hn
  have ha := hm a (by simp)
  have hf := hm f (by simp)
  have bb : ∀ {X Y : Bool}, boxF kvs ws d = (isS a && (wordD f && X)) → (isS a = false ∨ wordD f = false) → P (.bl false) := fun e h => by
    rw [e] at p
    rcases h with h | h
    · rw [h] at p; exact p
    · rw [h, Bool.false_and, Bool.and_false] at p; exact p
  have bx : ∃ X, boxF kvs ws d = (isS a && (wordD f && X)) := by
    rcases hr3 with rfl | ⟨c, rfl⟩
    · exact ⟨_, by unfold boxF; rw [h]⟩
    · exact ⟨_, by unfold boxF; rw [h]⟩
  obtain ⟨X, bx⟩ := bx
  refine eb_or (eb_not (eb_B (et_isStr (et_op rop_ix (et_var rfl (et_int ?_))))))
  rw [itL_ix h]
  refine ⟨a, at0 _ _, pur_ok ha.1, n2 (fun hs => iteT (wd_ret (et_bl (bb (Y := true) bx (.inl hs))))) fun hs => ?_⟩
  refine eb_not (eb_B (et_call0 nolk (ea_cons (et_op rop_ix (et_var rfl (et_int ?_))))))
  rw [itL_ix h]
  refine ⟨f, at1 _ _ _, ea_nil ⟨f, rfl, pur_ok hf.1, n2 (fun hw => wd_ret (et_bl (bb (Y := true) bx (.inr hw)))) fun hw => wd_next ?_⟩⟩
  obtain ⟨q, rfl⟩ : ∃ q, a = .str q := by
    cases a with
    | str q => exact ⟨q, rfl⟩
    | _ => cases hs
  obtain ⟨z, rfl⟩ : ∃ z, f = .str z := by
    cases f with
    | str z => exact ⟨z, rfl⟩
    | _ => cases hw
  refine wd_seq (wd_if (eb_test (et_op rop_eq (et_cb rcl_len (ea_cons (et_var rfl (ea_nil ?_)))))))
  rw [itL_len h]
  rcases hr3 with rfl | ⟨c, rfl⟩
  · refine et_int (bt rfl (wd_ret (et_op rop_eq (et_op rop_ix (et_var rfl (et_int ?_))))))
    rw [itL_ix h]
    refine ⟨.str q, rfl, et_str ?_⟩
    have e : boxF kvs ws d = decide (q = "in") := by
      unfold boxF
      rw [h]
      show (true && (wordD (.str z) && (q == "in"))) = _
      rw [hw, Bool.true_and, Bool.true_and]
      rfl
    rw [e] at p
    exact p
  refine et_int (bf rfl (wd_next (wd_seq (wd_if (eb_or (eb_test (et_op rop_ne (et_op rop_ix (et_var rfl (et_int ?_))))))))))
  rw [itL_ix h]
  have hc := hm c (by simp)
  have eb : boxF kvs ws d = (decide (q = "op") && match itL c with
    | some l => decide (1 ≤ l.length ∧ l.length ≤ 4) && (l.all (wireF kvs) && eqF ((dlk ws (.inr z)).getD (.int l.length)) (.int l.length))
    | none => false) := by
    unfold boxF
    rw [h]
    show (true && (wordD (.str z) && ((q == "op") && _))) = _
    rw [hw, Bool.true_and, Bool.true_and]
    rfl
  refine ⟨.str q, rfl, et_str (v2 (fun ho => iteT (wd_ret (et_bl ?_))) fun ho => ?_)⟩
  · rw [eb, ho] at p
    exact p
  rw [ho, Bool.true_and] at eb
  refine eb_or (eb_not (eb_B (et_call0 nolk (ea_cons (et_op rop_ix (et_var rfl (et_int ?_)))))))
  rw [itL_ix h]
  refine ⟨c, rfl, ea_nil ⟨c, rfl, pur_ok hc.1, n2 (fun hcl => iteT (wd_ret (et_bl ?_))) fun hcl => ?_⟩⟩
  · rw [eb, isL_no hcl] at p
    exact p
  obtain ⟨l, h3⟩ := isL_it hcl
  have hm3 := itL_mem h3 hc.1
  rw [h3] at eb
  refine eb_not (eb_test (et_chain rop_le rop_le (et_int (et_cb rcl_len (ea_cons (et_op rop_ix (et_var rfl (et_int ?_))))))))
  rw [itL_ix h]
  refine ⟨c, rfl, ea_nil ?_⟩
  rw [itL_len h3]
  have no : ¬ (1 ≤ l.length ∧ l.length ≤ 4) → P (.bl false) := fun hn => by
    rw [eb] at p
    have p : P (.bl (decide (1 ≤ l.length ∧ l.length ≤ 4) && (l.all (wireF kvs) && eqF ((dlk ws (.inr z)).getD (.int l.length)) (.int l.length)))) := p
    rw [decide_eq_false hn] at p
    exact p
  refine Wv.b2 (fun h1 => et_int (n2 (fun h4 => wd_ret (et_bl (no fun hh => of_decide_eq_false h4 (by show (l.length : Int) ≤ 4; omega)))) fun h4 => wd_next ?_)) fun h1 => nf rfl (wd_ret (et_bl (no fun hh => of_decide_eq_false h1 (by omega))))
  have h1 := of_decide_eq_true h1
  have h4 : (l.length : Int) ≤ 4 := of_decide_eq_true h4
  have eb : boxF kvs ws d = (l.all (wireF kvs) && eqF ((dlk ws (.inr z)).getD (.int l.length)) (.int l.length)) := by
    rw [eb]
    show (decide (1 ≤ l.length ∧ l.length ≤ 4) && _) = _
    rw [decide_eq_true ⟨by omega, by omega⟩, Bool.true_and]
  rw [eb] at p
  refine wd_ret (et_andV (et_allY (wireF kvs) (ei_seq (et_op rop_ix (et_var rfl (et_int ?_))))))
  rw [itL_ix h]
  refine ⟨c, rfl, ?_⟩
  rw [itL_it h3]
  refine ⟨nown_of rfl (by intro d z; cases z), fun x hx => et_call0 nolk (ea_cons (et_var rfl (ea_cons (et_var rfl (ea_nil ⟨x, kvs, rfl, ⟨(hm3 x hx).1, by have := (hm3 x hx).2; omega⟩, rfl, rfl⟩))))), Wv.b2 (fun hall => ?_) fun hall => ?_⟩
  · rw [hall, Bool.true_and] at p
    refine et_op rop_eq (et_dget2 (et_var rfl ⟨ws, rfl, et_op rop_ix (et_var rfl (et_int ?_))⟩))
    rw [itL_ix h]
    refine ⟨.str z, rfl, et_cb rcl_len (ea_cons (et_op rop_ix (et_var rfl (et_int ?_))))⟩
    rw [itL_ix h]
    refine ⟨c, rfl, ea_nil ?_⟩
    rw [itL_len h3]
    show Et _ _ _ _
    refine et_cb rcl_len (ea_cons (et_op rop_ix (et_var rfl (et_int ?_))))
    rw [itL_ix h]
    refine ⟨c, rfl, ea_nil ?_⟩
    rw [itL_len h3]
    obtain ⟨m, hmm⟩ : ∃ m, (dlk ws (.inr z)).getD (.int l.length) = .int m := by
      cases e : dlk ws (.inr z) with
      | none => exact ⟨_, rfl⟩
      | some t => obtain ⟨i, rfl⟩ := hws _ _ e; exact ⟨i, rfl⟩
    rw [hmm] at p ⊢
    have e : eqF (.int m) (.int l.length) = decide (m = l.length) := rfl
    rw [e] at p
    exact p
  · rw [hall] at p
    exact p
end
end Lw
namespace Lw
open PySem PySem.Spec PyProof.Rows L2 Evl Wv
set_option hygiene false in
local macro_rules
  | `(tactic| nofun) => `(tactic| repeat' (first | (with_reducible show Et _ _ _ _; first | with_reducible refine et_popAt (by with_unfolding_all rfl) ?_ | with_reducible refine et_var (by with_unfolding_all rfl) ?_ | with_reducible refine et_int ?_ | with_reducible refine et_str ?_ | with_reducible refine et_bl ?_ | with_reducible refine et_non ?_ | with_reducible refine et_andV ?_ | with_reducible refine et_orV ?_ | with_reducible refine et_notV ?_ | with_reducible refine et_if ?_ | with_reducible refine et_isStr ?_ | with_reducible refine et_isInt ?_ | with_reducible refine et_isBool ?_ | with_reducible refine et_isDict ?_ | with_reducible refine et_isList ?_ | with_reducible refine et_isTuple ?_ | with_reducible refine et_isLT ?_ | with_reducible refine et_tup ?_ | with_reducible refine et_neg ?_ | with_reducible refine et_ixO (by with_unfolding_all rfl) ?_ | with_reducible refine et_opL (by first | exact rop_ix | exact rop_eq | exact rop_ne | exact rop_in | exact rop_ni | exact rop_add | exact rop_sub | exact rop_mul | exact rop_lt | exact rop_le | exact rop_gt | exact rop_ge | exact rop_mod | exact rop_div | exact rop_isN | exact rop_notN) (by with_unfolding_all rfl) ?_ | with_reducible refine et_opRo (by first | exact rop_ix | exact rop_eq | exact rop_ne | exact rop_in | exact rop_ni | exact rop_add | exact rop_sub | exact rop_mul | exact rop_lt | exact rop_le | exact rop_gt | exact rop_ge | exact rop_mod | exact rop_div | exact rop_isN | exact rop_notN) (by with_unfolding_all rfl) ?_ | with_reducible refine et_op (by first | exact rop_ix | exact rop_eq | exact rop_ne | exact rop_in | exact rop_ni | exact rop_add | exact rop_sub | exact rop_mul | exact rop_lt | exact rop_le | exact rop_gt | exact rop_ge | exact rop_mod | exact rop_div | exact rop_isN | exact rop_notN) ?_ | with_reducible refine et_cbO (by first | exact rcl_len | exact rcl_int | exact rcl_sum | exact rcl_max | exact rcl_min | exact rcl_all | exact rcl_any) (by with_unfolding_all rfl) ?_ | with_reducible refine et_cb (by first | exact rcl_len | exact rcl_int | exact rcl_sum | exact rcl_max | exact rcl_min | exact rcl_all | exact rcl_any) ?_ | with_reducible refine et_chain (by first | exact rop_ix | exact rop_eq | exact rop_ne | exact rop_in | exact rop_ni | exact rop_add | exact rop_sub | exact rop_mul | exact rop_lt | exact rop_le | exact rop_gt | exact rop_ge | exact rop_mod | exact rop_div | exact rop_isN | exact rop_notN) (by first | exact rop_ix | exact rop_eq | exact rop_ne | exact rop_in | exact rop_ni | exact rop_add | exact rop_sub | exact rop_mul | exact rop_lt | exact rop_le | exact rop_gt | exact rop_ge | exact rop_mod | exact rop_div | exact rop_isN | exact rop_notN) ?_ | with_reducible refine et_dget2 ?_ | with_reducible refine et_call0 nolk ?_ | with_reducible refine et_call0 samelk ?_ | with_reducible refine et_sl ?_) | (with_reducible show Wd _ _ _ _; first | with_reducible refine wd_seq ?_ | with_reducible refine wd_if ?_ | with_reducible refine wd_ret ?_ | with_reducible refine wd_next ?_ | with_reducible refine wd_raise ?_) | (with_reducible show Ea _ _ _ _; first | with_reducible refine ea_nil ?_ | with_reducible refine ea_cons ?_) | (with_reducible show Eb _ _ _ _; first | with_reducible refine eb_or ?_ | with_reducible refine eb_and ?_ | with_reducible refine eb_not ?_ | with_reducible refine eb_B ?_ | with_reducible refine eb_test ?_) | (with_reducible show Eo _ _ _ _; first | with_reducible refine eo_none ?_ | with_reducible refine eo_some ?_) | with_reducible refine isTyI (by first | with_unfolding_all rfl | assumption | exact pur_ok (by assumption)) ?_ | with_reducible refine iteT ?_ | with_reducible refine iteF ?_ | with_reducible refine bt (by first | with_unfolding_all rfl | assumption) ?_ | with_reducible refine bf (by first | with_unfolding_all rfl | assumption) ?_ | with_reducible refine nt (by first | with_unfolding_all rfl | assumption) ?_ | with_reducible refine nf (by first | with_unfolding_all rfl | assumption) ?_ | with_reducible refine fin_s ?_ | with_reducible refine fni_s ?_ | with_reducible refine fx0 (by first | with_unfolding_all rfl | assumption) ?_ | with_reducible refine fx1 (by first | with_unfolding_all rfl | assumption) ?_ | with_reducible refine fx2 (by first | with_unfolding_all rfl | assumption) ?_ | with_reducible refine fxlen (by first | with_unfolding_all rfl | assumption) ?_ | with_reducible refine fxit (by first | with_unfolding_all rfl | assumption) ?_ | with_reducible refine feq_i ?_ | with_reducible refine feq_s ?_ | with_reducible refine fne_i ?_ | with_reducible refine fne_s ?_ | with_reducible refine r1_i (by first | with_unfolding_all rfl | assumption | exact pur_ok (by assumption)) ?_ | with_reducible refine sclI (by with_unfolding_all rfl) ?_ | with_reducible refine lenI (by with_unfolding_all rfl) ?_ | with_reducible refine eI ?_))
section
variable {P : Program} {w : World} {K : PySem.W.Frag} {mg : Str → Option Value} {base : Heap}
/-! ### as_box -/
/-- a box as it is kept -/
def asbF (d : Dt) : Dt := match itL d with
  | some [a, b] => .tup [a, b]
  | some [_, f, c] => match itL c with
    | some l => .tup [.str "op", f, .lst (l.map aswF)]
    | none => d
  | _ => d
/-- what a box is -/
theorem boxF_inv {kvs ws : List (Key × Dt)} {d : Dt} (h : boxF kvs ws d = true) : (∃ z, itL d = some [.str "in", .str z] ∧ wordD (.str z) = true) ∨ ∃ z c l, itL d = some [.str "op", .str z, c] ∧ wordD (.str z) = true ∧ itL c = some l ∧ (1 ≤ l.length ∧ l.length ≤ 4) ∧ (∀ x ∈ l, wireF kvs x = true) ∧
    eqF ((dlk ws (.inr z)).getD (.int l.length)) (.int l.length) = true := by
  unfold boxF at h
  cases e : itL d with
  | none => rw [e] at h; cases h
  | some xs =>
    rw [e] at h
    match xs, h with
    | [a, b], h =>
      simp only [Bool.and_eq_true] at h
      obtain ⟨h1, h2, h3⟩ := h
      obtain ⟨q, rfl⟩ : ∃ q, a = .str q := by cases a <;> first | exact ⟨_, rfl⟩ | cases h1
      obtain ⟨z, rfl⟩ : ∃ z, b = .str z := by cases b <;> first | exact ⟨_, rfl⟩ | cases h2
      have : q = "in" := eq_of_beq h3
      subst this
      exact .inl ⟨z, rfl, h2⟩
    | [a, f, c], h =>
      simp only [Bool.and_eq_true] at h
      obtain ⟨h1, h2, h3, h4⟩ := h
      obtain ⟨q, rfl⟩ : ∃ q, a = .str q := by cases a <;> first | exact ⟨_, rfl⟩ | cases h1
      obtain ⟨z, rfl⟩ : ∃ z, f = .str z := by cases f <;> first | exact ⟨_, rfl⟩ | cases h2
      have : q = "op" := eq_of_beq h3
      subst this
      cases e2 : itL c with
      | none => rw [e2] at h4; cases h4
      | some l =>
        rw [e2] at h4
        simp only [Bool.and_eq_true, decide_eq_true_eq] at h4
        exact .inr ⟨z, c, l, rfl, h2, e2, h4.1, fun x hx => List.all_eq_true.mp h4.2.1 x hx, h4.2.2⟩
theorem asbF_in {d : Dt} {z : Str} (h : itL d = some [.str "in", .str z]) : asbF d = .tup [.str "in", .str z] := by unfold asbF; rw [h]
theorem asbF_op {d c : Dt} {z : Str} {l : List Dt} (h : itL d = some [.str "op", .str z, c]) (hc : itL c = some l) : asbF d = .tup [.str "op", .str z, .lst (l.map aswF)] := by
  unfold asbF
  rw [h]
  show (match itL c with | some ts => _ | none => _) = _
  rw [hc]
theorem ok_as_box (T : Txt P K mg) : FnOk P w K mg base CX0 12 T.a_as_box T.d_as_box ["thing"] (spW K false (R1 (fun d => ∃ kvs ws, boxF kvs ws d = true) asbF)) := by
  refine T.F_as_box.ok sc_as_box (fun vs H Q E h => w_len 1 h fun _ _ _ ⟨_, e, _⟩ => by rw [e]; rfl) (fun cdv A outer s H vs Q E hr h => ⟨_, PSs.nox (pss_one (ps_ret (pe_ifExp (pt_cmpR (uEq K (hu64 hr)) (pe_callB (u_lenA K) rfl T.n_len (by decide +kernel) (pa_cons (pv 0) pa_nil)) pe_int (nomark _)) (pe_callTy (u_tupA K) rfl T.n_tuple (by decide +kernel) (pa_cons (pv 0) pa_nil)) (pe_tup (pa_cons pe_str (pa_cons (pe_ix (uIxA K (hu64 hr)) (pv 0) pe_int (fun _ _ => rfl)) (pa_cons (pe_lc (own := [("wire", 1)]) (g := gName 1) rfl sc_as_box.nd (pi_anyK (K := K) (pe_ix (uIxA K (hu64 hr)) (pv 0) pe_int (fun _ _ => rfl))) (blkOk_by (N := ["thing", "wire"]) (sc := defScope s_as_box) (by decide +kernel)) (fun _ _ _ _ _ => (pg_name (i := 1) sc_as_box.nd rfl (Or.inl rfl))) (fun _ _ _ _ _ => pts_nil) (fun _ _ _ _ _ => (pe_call (ok_as_wire T) (hr.mono (by omega)) rfl T.g_as_wire T.F_as_wire.kp T.b_as_wire .nil pass0 (pa_cons (pv 1) pa_nil)))) pa_nil))))))), w_start h 2 rfl fun ds P xe ⟨d, e, ⟨kvs, ws, hb⟩, p⟩ => ?_⟩)
  subst e
  refine ⟨Nat.le_of_ble_eq_true rfl, ?_⟩
  have p : P (asbF d) := p
  rcases boxF_inv hb with ⟨z, h, hz⟩ | ⟨z, c, l, h, hz, hc, hl, hw, _⟩
  · have ea := asbF_in h
    rw [ea] at p
    nofun
    refine et_tuple ?_
    nofun
    cases d with
    | lst xs => cases h; exact p
    | tup xs => cases h; exact p
    | _ => cases h
  · have ea := asbF_op h hc
    rw [ea] at p
    nofun
    refine Ef.et (ef_mapY aswF (ei_seq ?_))
    nofun
    refine ⟨nown_no rfl, fun x hx => ?_, ?_⟩
    · nofun
      exact r1_i ⟨kvs, hw x hx⟩ ⟨rfl, rfl⟩
    · nofun
      exact p
end
end Lw
namespace Lw
open PySem PySem.Spec PyProof.Rows L2 Evl Wv
set_option hygiene false in
local macro_rules
  | `(tactic| nofun) => `(tactic| repeat' (first | (with_reducible show Et _ _ _ _; first | with_reducible refine et_popAt (by with_unfolding_all rfl) ?_ | with_reducible refine et_var (by with_unfolding_all rfl) ?_ | with_reducible refine et_int ?_ | with_reducible refine et_str ?_ | with_reducible refine et_bl ?_ | with_reducible refine et_non ?_ | with_reducible refine et_andV ?_ | with_reducible refine et_orV ?_ | with_reducible refine et_notV ?_ | with_reducible refine et_if ?_ | with_reducible refine et_isStr ?_ | with_reducible refine et_isInt ?_ | with_reducible refine et_isBool ?_ | with_reducible refine et_isDict ?_ | with_reducible refine et_isList ?_ | with_reducible refine et_isTuple ?_ | with_reducible refine et_isLT ?_ | with_reducible refine et_tup ?_ | with_reducible refine et_neg ?_ | with_reducible refine et_ixO (by with_unfolding_all rfl) ?_ | with_reducible refine et_opL (by first | exact rop_ix | exact rop_eq | exact rop_ne | exact rop_in | exact rop_ni | exact rop_add | exact rop_sub | exact rop_mul | exact rop_lt | exact rop_le | exact rop_gt | exact rop_ge | exact rop_mod | exact rop_div | exact rop_isN | exact rop_notN) (by with_unfolding_all rfl) ?_ | with_reducible refine et_opRo (by first | exact rop_ix | exact rop_eq | exact rop_ne | exact rop_in | exact rop_ni | exact rop_add | exact rop_sub | exact rop_mul | exact rop_lt | exact rop_le | exact rop_gt | exact rop_ge | exact rop_mod | exact rop_div | exact rop_isN | exact rop_notN) (by with_unfolding_all rfl) ?_ | with_reducible refine et_op (by first | exact rop_ix | exact rop_eq | exact rop_ne | exact rop_in | exact rop_ni | exact rop_add | exact rop_sub | exact rop_mul | exact rop_lt | exact rop_le | exact rop_gt | exact rop_ge | exact rop_mod | exact rop_div | exact rop_isN | exact rop_notN) ?_ | with_reducible refine et_cbO (by first | exact rcl_len | exact rcl_int | exact rcl_sum | exact rcl_max | exact rcl_min | exact rcl_all | exact rcl_any) (by with_unfolding_all rfl) ?_ | with_reducible refine et_cb (by first | exact rcl_len | exact rcl_int | exact rcl_sum | exact rcl_max | exact rcl_min | exact rcl_all | exact rcl_any) ?_ | with_reducible refine et_chain (by first | exact rop_ix | exact rop_eq | exact rop_ne | exact rop_in | exact rop_ni | exact rop_add | exact rop_sub | exact rop_mul | exact rop_lt | exact rop_le | exact rop_gt | exact rop_ge | exact rop_mod | exact rop_div | exact rop_isN | exact rop_notN) (by first | exact rop_ix | exact rop_eq | exact rop_ne | exact rop_in | exact rop_ni | exact rop_add | exact rop_sub | exact rop_mul | exact rop_lt | exact rop_le | exact rop_gt | exact rop_ge | exact rop_mod | exact rop_div | exact rop_isN | exact rop_notN) ?_ | with_reducible refine et_dget2 ?_ | with_reducible refine et_call0 nolk ?_ | with_reducible refine et_call0 samelk ?_ | with_reducible refine et_sl ?_) | (with_reducible show Wd _ _ _ _; first | with_reducible refine wd_seq ?_ | with_reducible refine wd_if ?_ | with_reducible refine wd_ret ?_ | with_reducible refine wd_next ?_ | with_reducible refine wd_raise ?_) | (with_reducible show Ea _ _ _ _; first | with_reducible refine ea_nil ?_ | with_reducible refine ea_cons ?_) | (with_reducible show Eb _ _ _ _; first | with_reducible refine eb_or ?_ | with_reducible refine eb_and ?_ | with_reducible refine eb_not ?_ | with_reducible refine eb_B ?_ | with_reducible refine eb_test ?_) | (with_reducible show Eo _ _ _ _; first | with_reducible refine eo_none ?_ | with_reducible refine eo_some ?_) | with_reducible refine isTyI (by first | with_unfolding_all rfl | assumption | exact pur_ok (by assumption)) ?_ | with_reducible refine iteT ?_ | with_reducible refine iteF ?_ | with_reducible refine bt (by first | with_unfolding_all rfl | assumption) ?_ | with_reducible refine bf (by first | with_unfolding_all rfl | assumption) ?_ | with_reducible refine nt (by first | with_unfolding_all rfl | assumption) ?_ | with_reducible refine nf (by first | with_unfolding_all rfl | assumption) ?_ | with_reducible refine fin_s ?_ | with_reducible refine fni_s ?_ | with_reducible refine fx0 (by first | with_unfolding_all rfl | assumption) ?_ | with_reducible refine fx1 (by first | with_unfolding_all rfl | assumption) ?_ | with_reducible refine fx2 (by first | with_unfolding_all rfl | assumption) ?_ | with_reducible refine fxlen (by first | with_unfolding_all rfl | assumption) ?_ | with_reducible refine fxit (by first | with_unfolding_all rfl | assumption) ?_ | with_reducible refine feq_i ?_ | with_reducible refine feq_s ?_ | with_reducible refine fne_i ?_ | with_reducible refine fne_s ?_ | with_reducible refine r1_i (by first | with_unfolding_all rfl | assumption | exact pur_ok (by assumption)) ?_ | with_reducible refine sclI (by with_unfolding_all rfl) ?_ | with_reducible refine lenI (by with_unfolding_all rfl) ?_ | with_reducible refine eI ?_))
section
variable {P : Program} {w : World} {K : PySem.W.Frag} {mg : Str → Option Value} {base : Heap}
/-! ### wires_of_box -/
/-- the wires of a kept box -/
def wobF (d : Dt) : Dt := match itL d with
  | some [_, _, c] => c
  | _ => .lst []
/-- a kept box -/
def kBox (d : Dt) : Prop := (∃ z, d = .tup [.str "in", .str z]) ∨ ∃ z l, d = .tup [.str "op", .str z, .lst l]
theorem ok_wires_of_box (T : Txt P K mg) : FnOk P w K mg base CX0 2 T.a_wires_of_box T.d_wires_of_box ["box"] (spW K false (R1 kBox wobF)) := by
  refine T.F_wires_of_box.ok sc_wires_of_box (fun vs H Q E h => w_len 1 h fun _ _ _ ⟨_, e, _⟩ => by rw [e]; rfl) (fun cdv A outer s H vs Q E hr h => ⟨_, PSs.nox (pss_one (ps_ret (pe_ifExp (pt_cmpR (uEq K (hu64 hr)) (pe_ix (uIxA K (hu64 hr)) (pv 0) pe_int (fun _ _ => rfl)) pe_str (nomark _)) (pe_lst pa_nil) (pe_ix (uIxA K (hu64 hr)) (pv 0) pe_int (fun _ _ => rfl))))), w_start h 1 rfl fun ds P xe ⟨d, e, hb, p⟩ => ?_⟩)
  subst e
  refine ⟨Nat.le_of_ble_eq_true rfl, ?_⟩
  rcases hb with ⟨z, rfl⟩ | ⟨z, l, rfl⟩
  · nofun
    refine Ef.et (ef_lst ?_)
    nofun
    exact p
  · nofun
    exact p
/-! ### checked_boxes -/
def keyD : Dt → Key
  | .int i => .inl i
  | .str z => .inr z
  | _ => .inl 0
theorem keyD_k (k : Key) : keyD (kDt k) = k := by cases k <;> rfl
/-- the names of some boxes -/
def nmF (kvs : List (Key × Dt)) : List (Key × Dt) := ((kvs.map fun kv => kDt kv.1).filter wordD).foldl (fun a k => dpt a (keyD k) (.bl true)) []
/-- what is known of ops' wires behind a box -/
def wsF (ws : List (Key × Dt)) (b : Dt) : List (Key × Dt) := match b with
  | .tup [_, .str z, .lst l] => dpt ws (.inr z) (.int l.length)
  | _ => ws
/-- boxes one by one: the first odd name, or all as they are kept -/
def chkB (nm kvs : List (Key × Dt)) : List Dt → List (Key × Dt) → List (Key × Dt) → Sum Dt (List (Key × Dt))
  | [], f, _ => .inr f
  | k :: ks, f, ws => if wordD k = true ∧ boxF nm ws ((dlk kvs (keyD k)).getD .non) = true then
      chkB nm kvs ks (dpt f (keyD k) (asbF ((dlk kvs (keyD k)).getD .non))) (wsF ws (asbF ((dlk kvs (keyD k)).getD .non)))
    else .inl k
/-- a dict that may be checked -/
structure PreB (n : Nat) (kvs : List (Key × Dt)) : Prop where
  sz : kvs.length < Zz
  ks : ∀ kv ∈ kvs, ∀ z, kv.1 = .inr z → z.length ≤ Zz
  pv : ∀ kv ∈ kvs, pur kv.2 = true ∧ dep kv.2 < n
theorem ok_checked_boxes (T : Txt P K mg) : FnOk P w K mg base (L2.CX P w) 13 T.a_checked_boxes T.d_checked_boxes ["boxes"] (spW K true fun ds P xe => ∃ d, ds = [d] ∧ ((∃ kvs, d = .dct kvs ∧ PreB 12 kvs ∧ match chkB (nmF kvs) kvs (kvs.map fun kv => kDt kv.1) [] [] with
    | .inr f => P (.dct f)
    | .inl k => xe T.c_BadBox [("name", k)]) ∨ isDc d = false ∧ okT d ∧ xe T.c_BadBoxes [("thing", d)])) := by
  refine T.F_checked_boxes.ok sc_checked_boxes (fun vs H Q E h => w_len 1 h fun _ _ _ ⟨_, e, _⟩ => by rw [e]; rfl) (fun cdv A outer s H vs Q E hr h => ⟨_, (pss_cons (ps_if (pt_not (pt_val (pe_callB (u_isinstance K) rfl T.n_isinstance (by decide +kernel) (pa_cons (pv 0) (pa_cons (pe_bltn (v := .ty "dict") rfl T.n_dict (by decide +kernel) rfl) pa_nil))))) (pss_one (ps_raiseW rfl (takes_of rfl rfl rfl rfl) (pmk_sx (k := 0) T.X_BadBoxes (hr.mono (by omega)) T.g_BadBoxes (ExcC.ra T.e_BadBoxes T.X_BadBoxes) (pa_cons (pv 0) pa_nil)))) pss_nil) (pss_cons (ps_setDc (i := 2) (own := [("name", 1)]) (g := gName 1) rfl sc_checked_boxes.nd rfl rfl (sw_dc rfl rfl rfl rfl) (pi_anyK (K := K) (pv 0)) (blkOk_by (N := ["boxes", "name", "names", "wires_of", "found"]) (sc := defScope s_checked_boxes) (by decide +kernel)) (fun _ _ _ _ _ => (pg_name (i := 1) sc_checked_boxes.nd rfl (Or.inl rfl))) (fun _ _ _ _ _ => (pts_one (pt_val (pe_call (ok_is_word T) (hr.mono (by omega)) rfl T.g_is_word T.F_is_word.kp T.b_is_word .nil pass0 (pa_cons (pv 1) pa_nil))))) (fun _ _ _ _ _ => (pv 1)) (fun _ _ _ _ _ => pe_bl)) (pss_cons (ps_par (i := 3) (j := 4) rfl sc_checked_boxes.nd rfl rfl (by decide) rfl rfl (pa_cons pe_dnewK (pa_cons pe_dnewK pa_nil)) rfl rfl) (pss_cons (ps_for (passes_of rfl) rfl (pi_anyK (K := K) (pv 0)) (pg_name (i := 1) sc_checked_boxes.nd rfl (Or.inl rfl)) (pss_cons (ps_if (PW.pt (pw_or (pt_not (pt_val (pe_call (ok_is_word T) (hr.mono (by omega)) rfl T.g_is_word T.F_is_word.kp T.b_is_word .nil pass0 (pa_cons (pv 1) pa_nil)))) (pw_or1 (pt_not (pt_val (pe_call (ok_is_box T) (hr.mono (by omega)) rfl T.g_is_box T.F_is_box.kp T.b_is_box .nil pass0 (pa_cons (pe_ix (uIxA K (hu64 hr)) (pv 0) (pv 1) (fun _ _ => rfl)) (pa_cons (pv 2) (pa_cons (pv 3) pa_nil))))))))) (pss_one (ps_raiseW rfl (takes_of rfl rfl rfl rfl) (pmk_sx (k := 0) T.X_BadBox (hr.mono (by omega)) T.g_BadBox (ExcC.ra T.e_BadBox T.X_BadBox) (pa_cons (pv 1) pa_nil)))) pss_nil) (pss_cons (ps_dput (hu_of hr) (pv 4) (pv 1) (pe_call (ok_as_box T) (hr.mono (by omega)) rfl T.g_as_box T.F_as_box.kp T.b_as_box .nil pass0 (pa_cons (pe_ix (uIxA K (hu64 hr)) (pv 0) (pv 1) (fun _ _ => rfl)) pa_nil)) rfl) (pss_one (ps_if (pt_cmpR (uEq K (hu64 hr)) (pe_ix (uIxA K (hu64 hr)) (pe_ix (uIxA K (hu64 hr)) (pv 4) (pv 1) (fun _ _ => rfl)) pe_int (fun _ _ => rfl)) pe_str (nomark _)) (pss_one (ps_dput (hu_of hr) (pv 3) (pe_ix (uIxA K (hu64 hr)) (pe_ix (uIxA K (hu64 hr)) (pv 4) (pv 1) (fun _ _ => rfl)) pe_int (fun _ _ => rfl)) (pe_callB (u_lenA K) rfl T.n_len (by decide +kernel) (pa_cons (pe_ix (uIxA K (hu64 hr)) (pe_ix (uIxA K (hu64 hr)) (pv 4) (pv 1) (fun _ _ => rfl)) pe_int (fun _ _ => rfl)) pa_nil)) rfl)) pss_nil))))) (pss_one (ps_ret (pv 4))))))), w_start h 5 rfl fun ds P xe ⟨d, e, hp⟩ => ?_⟩)
  subst e
  refine ⟨Nat.le_of_ble_eq_true rfl, ?_⟩
  rcases hp with ⟨kvs, rfl, hk, hp⟩ | ⟨hd, ho, hp⟩
  · have keys : ∀ (i : Nat) d, (kvs.map fun kv => kDt kv.1)[i]? = some d → ∃ k v, d = kDt k ∧ keyD d = k ∧ dlk kvs k = some v ∧ pur v = true ∧ dep v < 12 := fun i d h => by
      rw [List.getElem?_map] at h
      cases e : kvs[i]? with
      | none => rw [e] at h; cases h
      | some q =>
        rw [e] at h
        cases h
        obtain ⟨v, hv⟩ := dlk_some (List.mem_of_getElem? e)
        obtain ⟨h1, h2⟩ := hk.pv _ (dlk_mem hv)
        exact ⟨q.1, v, rfl, keyD_k _, hv, h1, h2⟩
    nofun
    refine wd_asg (Ef.et (ef_dc (ei_any rfl ?_)))
    nofun
    refine ⟨hk.ks, nown_no rfl, fun i acc => acc = (((kvs.map fun kv => kDt kv.1).take i).filter wordD).foldl (fun a k => dpt a (keyD k) (.bl true)) [], rfl, fun i d acc hi hI => ?_, fun acc hI => ?_⟩
    · obtain ⟨k, v, rfl, hkk, _⟩ := keys i d hi
      have ht : (kvs.map fun kv => kDt kv.1).take (i + 1) = (kvs.map fun kv => kDt kv.1).take i ++ [kDt k] := by rw [List.take_add_one, hi]; rfl
      nofun
      refine r1_i (okT_k k) ?_
      rw [isB_bl]
      refine ⟨rfl, ?_⟩
      dsimp only at hI ⊢
      rw [ht, List.filter_append, List.foldl_append, ← hI]
      cases hw : wordD (kDt k) with
      | false =>
        refine iteF ?_
        rw [List.filter_cons_of_neg (by rw [hw]; intro z; cases z)]
        rfl
      | true =>
        refine iteT ?_
        nofun
        refine ⟨rfl, ?_⟩
        rw [List.filter_cons_of_pos hw]
        cases k with
        | inl j => cases hw
        | inr z =>
          show Et _ _ _ _
          nofun
          exact ⟨rfl, rfl⟩
    dsimp only at hI ⊢
    rw [List.take_length] at hI
    subst hI
    refine wd_seq (wd_parOO (ef_dnew (ef_dnew ?_)))
    refine wd_seq (wd_for (ei_any rfl (et_var rfl ⟨hk.ks, ?_⟩)))
    refine ⟨fun i e => ∃ (s : Sl) (f ws : List (Key × Dt)), e = [.v (.dct kvs), s, .v (.dct (nmF kvs)), .own (.dct ws), .own (.dct f)] ∧ f.length ≤ i ∧ ws.length ≤ i ∧ (∀ k t, dlk ws k = some t → ∃ i, t = .int i) ∧
      chkB (nmF kvs) kvs ((kvs.map fun kv => kDt kv.1).drop i) f ws = chkB (nmF kvs) kvs (kvs.map fun kv => kDt kv.1) [] [], ?_, ?_, ?_⟩
    · exact ⟨.no, [], [], rfl, Nat.le_refl _, Nat.le_refl _, fun k t (h : none = some t) => (nomatch h), rfl⟩
    · intro i d e hi hI
      obtain ⟨s, f, ws, rfl, hf, hw, hws, hc⟩ := hI
      obtain ⟨k, v, rfl, hkk, hv, hp1, hp2⟩ := keys i d hi
      have hlt : i < kvs.length := by have := (List.getElem?_eq_some_iff.mp hi).1; rw [List.length_map] at this; exact this
      have hsz := hk.sz
      have hd : (kvs.map fun kv => kDt kv.1).drop i = kDt k :: (kvs.map fun kv => kDt kv.1).drop (i + 1) := by
        rw [List.getElem?_eq_some_iff] at hi
        obtain ⟨h1, h2⟩ := hi
        rw [← h2, List.drop_eq_getElem_cons h1]
      rw [hd] at hc
      have hc : (if wordD (kDt k) = true ∧ boxF (nmF kvs) ws ((dlk kvs (keyD (kDt k))).getD .non) = true then chkB (nmF kvs) kvs ((kvs.map fun kv => kDt kv.1).drop (i + 1)) (dpt f (keyD (kDt k)) (asbF ((dlk kvs (keyD (kDt k))).getD .non))) (wsF ws (asbF ((dlk kvs (keyD (kDt k))).getD .non))) else .inl (kDt k)) = _ := hc
      rw [hkk, hv] at hc
      have hc : (if wordD (kDt k) = true ∧ boxF (nmF kvs) ws v = true then chkB (nmF kvs) kvs ((kvs.map fun kv => kDt kv.1).drop (i + 1)) (dpt f k (asbF v)) (wsF ws (asbF v)) else .inl (kDt k)) = _ := hc
      have odd : ¬ (wordD (kDt k) = true ∧ boxF (nmF kvs) ws v = true) → xe T.c_BadBox [("name", kDt k)] := fun h => by
        rw [if_neg h] at hc
        rw [← hc] at hp
        exact hp
      refine tg_name ?_
      nofun
      refine r1_i (okT_k k) (n2 (fun h => ?_) fun h => ?_)
      · nofun
        exact ⟨_, rfl, odd fun z => by rw [h] at z; cases z.1⟩
      obtain ⟨z, rfl⟩ : ∃ z, k = .inr z := by
        cases k with
        | inl j => cases h
        | inr z => exact ⟨z, rfl⟩
      refine eb_peek ?_
      nofun
      refine ⟨v, hv, ?_⟩
      nofun
      refine ⟨v, _, _, rfl, ⟨hp1, hp2⟩, hws, n2 (fun h2 => ?_) fun h2 => ?_⟩
      · nofun
        exact ⟨_, rfl, odd fun z => by rw [h2] at z; cases z.2⟩
      rw [if_pos ⟨h, h2⟩] at hc
      nofun
      refine wd_dput ?_
      nofun
      refine ⟨v, hv, ?_⟩
      nofun
      refine r1_i ⟨_, _, h2⟩ ⟨_, rfl, ?_⟩
      nofun
      have hfz : f.length < Zz := by omega
      have hwz : ws.length < Zz := by omega
      refine ⟨f, rfl, hfz, ?_⟩
      have hl1 : (dpt f (.inr z) (asbF v)).length ≤ i + 1 := Nat.le_trans (dpt_len _ _ _) (by omega)
      have hg : dlk (dpt f (.inr z) (asbF v)) (.inr z) = some (asbF v) := by rw [dlk_dpt, if_pos rfl]
      rcases boxF_inv h2 with ⟨z', h3, h4⟩ | ⟨z', c, l, h3, h4, h5, h6, _⟩
      · have ea := asbF_in h3
        rw [ea] at hc hg hl1 ⊢
        nofun
        refine ⟨_, rfl, _, hg, ?_⟩
        nofun
        exact ⟨_, _, _, rfl, hl1, by omega, hws, hc⟩
      · have ea := asbF_op h3 h5
        rw [ea] at hc hg hl1 ⊢
        nofun
        refine ⟨_, rfl, _, hg, ?_⟩
        nofun
        refine wd_dput ?_
        nofun
        refine ⟨_, rfl, _, hg, ?_⟩
        nofun
        refine ⟨_, rfl, ?_⟩
        nofun
        refine ⟨_, rfl, _, hg, ?_⟩
        nofun
        refine ⟨_, rfl, hwz, _, _, _, rfl, hl1, Nat.le_trans (dpt_len _ _ _) (by omega), fun k t h => ?_, hc⟩
        rw [dlk_dpt] at h
        split at h
        · cases h
          exact ⟨_, rfl⟩
        · exact hws k t h
    · intro e hI
      obtain ⟨s, f, ws, rfl, hf, hw, hws, hc⟩ := hI
      rw [List.drop_length] at hc
      rw [← hc] at hp
      exact wd_ret (et_own rfl hp)
  · nofun
    exact ⟨_, rfl, hp⟩
end
end Lw
namespace Lw
open PySem PySem.Spec PyProof.Rows L2 Evl Wv
set_option hygiene false in
local macro_rules
  | `(tactic| nofun) => `(tactic| repeat' (first | (with_reducible show Et _ _ _ _; first | with_reducible refine et_popAt (by with_unfolding_all rfl) ?_ | with_reducible refine et_var (by with_unfolding_all rfl) ?_ | with_reducible refine et_int ?_ | with_reducible refine et_str ?_ | with_reducible refine et_bl ?_ | with_reducible refine et_non ?_ | with_reducible refine et_andV ?_ | with_reducible refine et_orV ?_ | with_reducible refine et_notV ?_ | with_reducible refine et_if ?_ | with_reducible refine et_isStr ?_ | with_reducible refine et_isInt ?_ | with_reducible refine et_isBool ?_ | with_reducible refine et_isDict ?_ | with_reducible refine et_isList ?_ | with_reducible refine et_isTuple ?_ | with_reducible refine et_isLT ?_ | with_reducible refine et_tup ?_ | with_reducible refine et_neg ?_ | with_reducible refine et_ixO (by with_unfolding_all rfl) ?_ | with_reducible refine et_opL (by first | exact rop_ix | exact rop_eq | exact rop_ne | exact rop_in | exact rop_ni | exact rop_add | exact rop_sub | exact rop_mul | exact rop_lt | exact rop_le | exact rop_gt | exact rop_ge | exact rop_mod | exact rop_div | exact rop_isN | exact rop_notN) (by with_unfolding_all rfl) ?_ | with_reducible refine et_opRo (by first | exact rop_ix | exact rop_eq | exact rop_ne | exact rop_in | exact rop_ni | exact rop_add | exact rop_sub | exact rop_mul | exact rop_lt | exact rop_le | exact rop_gt | exact rop_ge | exact rop_mod | exact rop_div | exact rop_isN | exact rop_notN) (by with_unfolding_all rfl) ?_ | with_reducible refine et_op (by first | exact rop_ix | exact rop_eq | exact rop_ne | exact rop_in | exact rop_ni | exact rop_add | exact rop_sub | exact rop_mul | exact rop_lt | exact rop_le | exact rop_gt | exact rop_ge | exact rop_mod | exact rop_div | exact rop_isN | exact rop_notN) ?_ | with_reducible refine et_cbO (by first | exact rcl_len | exact rcl_int | exact rcl_sum | exact rcl_max | exact rcl_min | exact rcl_all | exact rcl_any) (by with_unfolding_all rfl) ?_ | with_reducible refine et_cb (by first | exact rcl_len | exact rcl_int | exact rcl_sum | exact rcl_max | exact rcl_min | exact rcl_all | exact rcl_any) ?_ | with_reducible refine et_chain (by first | exact rop_ix | exact rop_eq | exact rop_ne | exact rop_in | exact rop_ni | exact rop_add | exact rop_sub | exact rop_mul | exact rop_lt | exact rop_le | exact rop_gt | exact rop_ge | exact rop_mod | exact rop_div | exact rop_isN | exact rop_notN) (by first | exact rop_ix | exact rop_eq | exact rop_ne | exact rop_in | exact rop_ni | exact rop_add | exact rop_sub | exact rop_mul | exact rop_lt | exact rop_le | exact rop_gt | exact rop_ge | exact rop_mod | exact rop_div | exact rop_isN | exact rop_notN) ?_ | with_reducible refine et_dget2 ?_ | with_reducible refine et_call0 nolk ?_ | with_reducible refine et_call0 samelk ?_ | with_reducible refine et_sl ?_) | (with_reducible show Wd _ _ _ _; first | with_reducible refine wd_seq ?_ | with_reducible refine wd_if ?_ | with_reducible refine wd_ret ?_ | with_reducible refine wd_next ?_ | with_reducible refine wd_raise ?_) | (with_reducible show Ea _ _ _ _; first | with_reducible refine ea_nil ?_ | with_reducible refine ea_cons ?_) | (with_reducible show Eb _ _ _ _; first | with_reducible refine eb_or ?_ | with_reducible refine eb_and ?_ | with_reducible refine eb_not ?_ | with_reducible refine eb_B ?_ | with_reducible refine eb_test ?_) | (with_reducible show Eo _ _ _ _; first | with_reducible refine eo_none ?_ | with_reducible refine eo_some ?_) | with_reducible refine isTyI (by first | with_unfolding_all rfl | assumption | exact pur_ok (by assumption)) ?_ | with_reducible refine iteT ?_ | with_reducible refine iteF ?_ | with_reducible refine bt (by first | with_unfolding_all rfl | assumption) ?_ | with_reducible refine bf (by first | with_unfolding_all rfl | assumption) ?_ | with_reducible refine nt (by first | with_unfolding_all rfl | assumption) ?_ | with_reducible refine nf (by first | with_unfolding_all rfl | assumption) ?_ | with_reducible refine fin_s ?_ | with_reducible refine fni_s ?_ | with_reducible refine fx0 (by first | with_unfolding_all rfl | assumption) ?_ | with_reducible refine fx1 (by first | with_unfolding_all rfl | assumption) ?_ | with_reducible refine fx2 (by first | with_unfolding_all rfl | assumption) ?_ | with_reducible refine fxlen (by first | with_unfolding_all rfl | assumption) ?_ | with_reducible refine fxit (by first | with_unfolding_all rfl | assumption) ?_ | with_reducible refine feq_i ?_ | with_reducible refine feq_s ?_ | with_reducible refine fne_i ?_ | with_reducible refine fne_s ?_ | with_reducible refine r1_i (by first | with_unfolding_all rfl | assumption | exact pur_ok (by assumption)) ?_ | with_reducible refine sclI (by with_unfolding_all rfl) ?_ | with_reducible refine lenI (by with_unfolding_all rfl) ?_ | with_reducible refine eI ?_))
section
variable {P : Program} {w : World} {K : PySem.W.Frag} {mg : Str → Option Value} {base : Heap}
/-! ### checked_outputs -/
theorem key_at {kvs : List (Key × Dt)} {n : Nat} (hp : ∀ kv ∈ kvs, pur kv.2 = true ∧ dep kv.2 < n) {i : Nat} {d : Dt} (h : (kvs.map fun kv => kDt kv.1)[i]? = some d) : ∃ k v, d = kDt k ∧ keyD d = k ∧ dlk kvs k = some v ∧ pur v = true ∧ dep v < n ∧ i < kvs.length ∧
    (kvs.map fun kv => kDt kv.1).drop i = kDt k :: (kvs.map fun kv => kDt kv.1).drop (i + 1) := by
  have hd : (kvs.map fun kv => kDt kv.1).drop i = d :: (kvs.map fun kv => kDt kv.1).drop (i + 1) := by
    rw [List.getElem?_eq_some_iff] at h
    obtain ⟨h1, h2⟩ := h
    rw [← h2, List.drop_eq_getElem_cons h1]
  have hlt : i < kvs.length := by have := (List.getElem?_eq_some_iff.mp h).1; rw [List.length_map] at this; exact this
  rw [List.getElem?_map] at h
  cases e : kvs[i]? with
  | none => rw [e] at h; cases h
  | some q =>
    rw [e] at h
    cases h
    obtain ⟨v, hv⟩ := dlk_some (List.mem_of_getElem? e)
    obtain ⟨h1, h2⟩ := hp _ (dlk_mem hv)
    exact ⟨q.1, v, rfl, keyD_k _, hv, h1, h2, hlt, hd⟩
/-- outputs one by one: the first odd name, or all as they are kept -/
def chkO (bt kvs : List (Key × Dt)) : List Dt → List (Key × Dt) → Sum Dt (List (Key × Dt))
  | [], f => .inr f
  | k :: ks, f => if ¬ f.length = 4 ∧ wordD k = true ∧ wireF bt ((dlk kvs (keyD k)).getD .non) = true then chkO bt kvs ks (dpt f (keyD k) (aswF ((dlk kvs (keyD k)).getD .non))) else .inl k
theorem ok_checked_outputs (T : Txt P K mg) : FnOk P w K mg base (L2.CX P w) 12 T.a_checked_outputs T.d_checked_outputs ["outputs", "boxes"] (spW K true fun ds P xe => ∃ d bt, ds = [d, .dct bt] ∧ ((∃ kvs, d = .dct kvs ∧ PreB 10 kvs ∧ match chkO bt kvs (kvs.map fun kv => kDt kv.1) [] with
    | .inr f => P (.dct f)
    | .inl k => xe T.c_BadOutput [("name", k)]) ∨ isDc d = false ∧ okT d ∧ xe T.c_BadOutputs [("thing", d)])) := by
  refine T.F_checked_outputs.ok sc_checked_outputs (fun vs H Q E h => w_len 2 h fun _ _ _ ⟨_, _, e, _⟩ => by rw [e]; rfl) (fun cdv A outer s H vs Q E hr h => ⟨_, (pss_cons (ps_if (pt_not (pt_val (pe_callB (u_isinstance K) rfl T.n_isinstance (by decide +kernel) (pa_cons (pv 0) (pa_cons (pe_bltn (v := .ty "dict") rfl T.n_dict (by decide +kernel) rfl) pa_nil))))) (pss_one (ps_raiseW rfl (takes_of rfl rfl rfl rfl) (pmk_sx (k := 0) T.X_BadOutputs (hr.mono (by omega)) T.g_BadOutputs (ExcC.ra T.e_BadOutputs T.X_BadOutputs) (pa_cons (pv 0) pa_nil)))) pss_nil) (pss_cons (ps_set (i := 2) sc_checked_outputs.nd rfl (Or.inl rfl) pe_dnewK) (pss_cons (ps_for (passes_of rfl) rfl (pi_anyK (K := K) (pv 0)) (pg_name (i := 3) sc_checked_outputs.nd rfl (Or.inl rfl)) (pss_cons (ps_if (PW.pt (pw_or (pt_cmpR (uEq K (hu64 hr)) (pe_callB (u_lenA K) rfl T.n_len (by decide +kernel) (pa_cons (pv 2) pa_nil)) (pe_glob (v := .int 4) rfl T.h_MOST_OUTPUTS.choose_spec ⟨_, rfl⟩) (nomark _)) (pw_or (pt_not (pt_val (pe_call (ok_is_word T) (hr.mono (by omega)) rfl T.g_is_word T.F_is_word.kp T.b_is_word .nil pass0 (pa_cons (pv 3) pa_nil)))) (pw_or1 (pt_not (pt_val (pe_call (ok_is_wire T) (hr.mono (by omega)) rfl T.g_is_wire T.F_is_wire.kp T.b_is_wire .nil pass0 (pa_cons (pe_ix (uIxA K (hu64 hr)) (pv 0) (pv 3) (fun _ _ => rfl)) (pa_cons (pv 1) pa_nil))))))))) (pss_one (ps_raiseW rfl (takes_of rfl rfl rfl rfl) (pmk_sx (k := 0) T.X_BadOutput (hr.mono (by omega)) T.g_BadOutput (ExcC.ra T.e_BadOutput T.X_BadOutput) (pa_cons (pv 3) pa_nil)))) pss_nil) (pss_one (ps_dput (hu_of hr) (pv 2) (pv 3) (pe_call (ok_as_wire T) (hr.mono (by omega)) rfl T.g_as_wire T.F_as_wire.kp T.b_as_wire .nil pass0 (pa_cons (pe_ix (uIxA K (hu64 hr)) (pv 0) (pv 3) (fun _ _ => rfl)) pa_nil)) rfl)))) (pss_one (ps_ret (pv 2)))))), w_start h 4 rfl fun ds P xe ⟨d, bt, e, hp⟩ => ?_⟩)
  subst e
  refine ⟨Nat.le_of_ble_eq_true rfl, ?_⟩
  rcases hp with ⟨kvs, rfl, hk, hp⟩ | ⟨hd, ho, hp⟩
  · nofun
    refine wd_asgO (ef_dnew ?_)
    refine wd_seq (wd_for (ei_any rfl (et_var rfl ⟨hk.ks, ?_⟩)))
    refine ⟨fun i e => ∃ (s : Sl) (f : List (Key × Dt)), e = [.v (.dct kvs), .v (.dct bt), .own (.dct f), s] ∧ f.length ≤ i ∧ chkO bt kvs ((kvs.map fun kv => kDt kv.1).drop i) f = chkO bt kvs (kvs.map fun kv => kDt kv.1) [], ?_, ?_, ?_⟩
    · exact ⟨.no, [], rfl, Nat.le_refl _, rfl⟩
    · intro i d e hi hI
      obtain ⟨s, f, rfl, hf, hc⟩ := hI
      obtain ⟨k, v, rfl, hkk, hv, hp1, hp2, hlt, hd⟩ := key_at hk.pv hi
      have hsz := hk.sz
      rw [hd] at hc
      have hc : (if ¬ f.length = 4 ∧ wordD (kDt k) = true ∧ wireF bt ((dlk kvs (keyD (kDt k))).getD .non) = true then chkO bt kvs ((kvs.map fun kv => kDt kv.1).drop (i + 1)) (dpt f (keyD (kDt k)) (aswF ((dlk kvs (keyD (kDt k))).getD .non))) else .inl (kDt k)) = _ := hc
      rw [hkk, hv] at hc
      have hc : (if ¬ f.length = 4 ∧ wordD (kDt k) = true ∧ wireF bt v = true then chkO bt kvs ((kvs.map fun kv => kDt kv.1).drop (i + 1)) (dpt f k (aswF v)) else .inl (kDt k)) = _ := hc
      have odd : ¬ (¬ f.length = 4 ∧ wordD (kDt k) = true ∧ wireF bt v = true) → xe T.c_BadOutput [("name", kDt k)] := fun h => by
        rw [if_neg h] at hc
        rw [← hc] at hp
        exact hp
      refine tg_name ?_
      nofun
      refine ⟨rfl, ?_⟩
      nofun
      refine Wv.b2 (fun h4 => ?_) fun h4 => ?_
      · have h4 := of_decide_eq_true h4
        nofun
        exact ⟨_, rfl, odd fun z => z.1 (by have : ((f.length : Nat) : Int) = 4 := h4; omega)⟩
      have h4 : ¬ f.length = 4 := fun z => of_decide_eq_false h4 (by show ((f.length : Nat) : Int) = 4; omega)
      nofun
      refine r1_i (okT_k k) (n2 (fun h => ?_) fun h => ?_)
      · nofun
        exact ⟨_, rfl, odd fun z => by rw [h] at z; cases z.2.1⟩
      obtain ⟨z, rfl⟩ : ∃ z, k = .inr z := by
        cases k with
        | inl j => cases h
        | inr z => exact ⟨z, rfl⟩
      nofun
      refine ⟨v, hv, ?_⟩
      nofun
      refine ⟨v, _, rfl, ⟨hp1, hp2⟩, n2 (fun h2 => ?_) fun h2 => ?_⟩
      · nofun
        exact ⟨_, rfl, odd fun z => by rw [h2] at z; cases z.2.2⟩
      rw [if_pos ⟨h4, h, h2⟩] at hc
      nofun
      refine wd_dput ?_
      nofun
      refine ⟨v, hv, ?_⟩
      nofun
      refine r1_i ⟨_, h2⟩ ⟨_, rfl, ?_⟩
      nofun
      have hfz : f.length < Zz := by omega
      exact ⟨f, rfl, hfz, _, _, rfl, Nat.le_trans (dpt_len _ _ _) (by omega), hc⟩
    · intro e hI
      obtain ⟨s, f, rfl, hf, hc⟩ := hI
      rw [List.drop_length] at hc
      rw [← hc] at hp
      exact wd_ret (et_own rfl hp)
  · nofun
    exact ⟨_, rfl, hp⟩
end
end Lw
namespace Lw
open PySem PySem.Spec PyProof.Rows L2 Evl Wv
set_option hygiene false in
local macro_rules
  | `(tactic| nofun) => `(tactic| repeat' (first | (with_reducible show Et _ _ _ _; first | with_reducible refine et_popAt (by with_unfolding_all rfl) ?_ | with_reducible refine et_var (by with_unfolding_all rfl) ?_ | with_reducible refine et_int ?_ | with_reducible refine et_str ?_ | with_reducible refine et_bl ?_ | with_reducible refine et_non ?_ | with_reducible refine et_andV ?_ | with_reducible refine et_orV ?_ | with_reducible refine et_notV ?_ | with_reducible refine et_if ?_ | with_reducible refine et_isStr ?_ | with_reducible refine et_isInt ?_ | with_reducible refine et_isBool ?_ | with_reducible refine et_isDict ?_ | with_reducible refine et_isList ?_ | with_reducible refine et_isTuple ?_ | with_reducible refine et_isLT ?_ | with_reducible refine et_tup ?_ | with_reducible refine et_neg ?_ | with_reducible refine et_ixO (by with_unfolding_all rfl) ?_ | with_reducible refine et_opL (by first | exact rop_ix | exact rop_eq | exact rop_ne | exact rop_in | exact rop_ni | exact rop_add | exact rop_sub | exact rop_mul | exact rop_lt | exact rop_le | exact rop_gt | exact rop_ge | exact rop_mod | exact rop_div | exact rop_isN | exact rop_notN) (by with_unfolding_all rfl) ?_ | with_reducible refine et_opRo (by first | exact rop_ix | exact rop_eq | exact rop_ne | exact rop_in | exact rop_ni | exact rop_add | exact rop_sub | exact rop_mul | exact rop_lt | exact rop_le | exact rop_gt | exact rop_ge | exact rop_mod | exact rop_div | exact rop_isN | exact rop_notN) (by with_unfolding_all rfl) ?_ | with_reducible refine et_op (by first | exact rop_ix | exact rop_eq | exact rop_ne | exact rop_in | exact rop_ni | exact rop_add | exact rop_sub | exact rop_mul | exact rop_lt | exact rop_le | exact rop_gt | exact rop_ge | exact rop_mod | exact rop_div | exact rop_isN | exact rop_notN) ?_ | with_reducible refine et_cbO (by first | exact rcl_len | exact rcl_int | exact rcl_sum | exact rcl_max | exact rcl_min | exact rcl_all | exact rcl_any) (by with_unfolding_all rfl) ?_ | with_reducible refine et_cb (by first | exact rcl_len | exact rcl_int | exact rcl_sum | exact rcl_max | exact rcl_min | exact rcl_all | exact rcl_any) ?_ | with_reducible refine et_chain (by first | exact rop_ix | exact rop_eq | exact rop_ne | exact rop_in | exact rop_ni | exact rop_add | exact rop_sub | exact rop_mul | exact rop_lt | exact rop_le | exact rop_gt | exact rop_ge | exact rop_mod | exact rop_div | exact rop_isN | exact rop_notN) (by first | exact rop_ix | exact rop_eq | exact rop_ne | exact rop_in | exact rop_ni | exact rop_add | exact rop_sub | exact rop_mul | exact rop_lt | exact rop_le | exact rop_gt | exact rop_ge | exact rop_mod | exact rop_div | exact rop_isN | exact rop_notN) ?_ | with_reducible refine et_dget2 ?_ | with_reducible refine et_call0 nolk ?_ | with_reducible refine et_call0 samelk ?_ | with_reducible refine et_sl ?_) | (with_reducible show Wd _ _ _ _; first | with_reducible refine wd_seq ?_ | with_reducible refine wd_if ?_ | with_reducible refine wd_ret ?_ | with_reducible refine wd_next ?_ | with_reducible refine wd_raise ?_) | (with_reducible show Ea _ _ _ _; first | with_reducible refine ea_nil ?_ | with_reducible refine ea_cons ?_) | (with_reducible show Eb _ _ _ _; first | with_reducible refine eb_or ?_ | with_reducible refine eb_and ?_ | with_reducible refine eb_not ?_ | with_reducible refine eb_B ?_ | with_reducible refine eb_test ?_) | (with_reducible show Eo _ _ _ _; first | with_reducible refine eo_none ?_ | with_reducible refine eo_some ?_) | with_reducible refine isTyI (by first | with_unfolding_all rfl | assumption | exact pur_ok (by assumption)) ?_ | with_reducible refine iteT ?_ | with_reducible refine iteF ?_ | with_reducible refine bt (by first | with_unfolding_all rfl | assumption) ?_ | with_reducible refine bf (by first | with_unfolding_all rfl | assumption) ?_ | with_reducible refine nt (by first | with_unfolding_all rfl | assumption) ?_ | with_reducible refine nf (by first | with_unfolding_all rfl | assumption) ?_ | with_reducible refine fin_s ?_ | with_reducible refine fni_s ?_ | with_reducible refine fx0 (by first | with_unfolding_all rfl | assumption) ?_ | with_reducible refine fx1 (by first | with_unfolding_all rfl | assumption) ?_ | with_reducible refine fx2 (by first | with_unfolding_all rfl | assumption) ?_ | with_reducible refine fxlen (by first | with_unfolding_all rfl | assumption) ?_ | with_reducible refine fxit (by first | with_unfolding_all rfl | assumption) ?_ | with_reducible refine feq_i ?_ | with_reducible refine feq_s ?_ | with_reducible refine fne_i ?_ | with_reducible refine fne_s ?_ | with_reducible refine r1_i (by first | with_unfolding_all rfl | assumption | exact pur_ok (by assumption)) ?_ | with_reducible refine sclI (by with_unfolding_all rfl) ?_ | with_reducible refine lenI (by with_unfolding_all rfl) ?_ | with_reducible refine eI ?_))
/-! ### kept boxes -/
/-- a kept wire: the box, the start words -/
abbrev Wi := Str × List Dt
def wD (x : Wi) : Dt := .tup [.str x.1, .lst x.2]
def okW (x : Wi) : Prop := dats x.2 = true ∧ deps x.2 < 30
/-- a kept box and its wires -/
inductive KB : Dt → List Wi → Prop where
  | inp (z : Str) : KB (.tup [.str "in", .str z]) []
  | op (z : Str) (ws : List Wi) (h : ∀ x ∈ ws, okW x) : KB (.tup [.str "op", .str z, .lst (ws.map wD)]) ws
theorem KB.kBox {b : Dt} {ws : List Wi} (h : KB b ws) : Lw.kBox b := by
  cases h with
  | inp z => exact .inl ⟨z, rfl⟩
  | op z ws h => exact .inr ⟨z, _, rfl⟩
theorem KB.wob {b : Dt} {ws : List Wi} (h : KB b ws) : wobF b = .lst (ws.map wD) := by
  cases h with
  | inp z => rfl
  | op z ws h => rfl
theorem KB.ok {b : Dt} {ws : List Wi} (h : KB b ws) : ∀ x ∈ ws, okW x := by
  cases h with
  | inp z => intro x hx; cases hx
  | op z ws h => exact h
/-- a table of kept boxes: its names, the wires by names -/
structure BoxT (kvs : List (Key × Dt)) (ns : List Str) (bx : Str → List Wi) : Prop where
  ks : kvs.map (·.1) = ns.map Sum.inr
  nd : ns.Nodup
  bx : ∀ n ∈ ns, ∃ b, dlk kvs (.inr n) = some b ∧ KB b (bx n)
  sz : ns.length < Zz
  tx : ∀ n ∈ ns, n.length ≤ Zz
/-- the boxes in an order in which wires that hold nothing lead back -/
structure Ord (ns : List Str) (bx : Str → List Wi) (found : List Str) : Prop where
  nd : found.Nodup
  sub : ∀ n ∈ found, n ∈ ns
  top : ∀ (i : Nat) n, found[i]? = some n → ∀ x ∈ bx n, x.2 = [] → ∃ j, j < i ∧ found[j]? = some x.1
  cl : ∀ n ∈ ns, (∀ x ∈ bx n, x.2 = [] → x.1 ∈ found) → n ∈ found
/-- all wires that hold nothing lead to found ones -/
def rdy (found : List Str) (ws : List Wi) : Bool := ws.all fun x => !x.2.isEmpty || decide (x.1 ∈ found)
/-- part of the way -/
structure OS (ns : List Str) (bx : Str → List Wi) (found left : List Str) : Prop where
  nd : (found ++ left).Nodup
  mem : ∀ n, n ∈ ns ↔ n ∈ found ∨ n ∈ left
  len : found.length + left.length = ns.length
  top : ∀ (i : Nat) n, found[i]? = some n → ∀ x ∈ bx n, x.2 = [] → ∃ j, j < i ∧ found[j]? = some x.1
theorem OS.step {ns : List Str} {bx : Str → List Wi} {found left : List Str} {n : Str} (o : OS ns bx found left) (h : n ∈ left) (r : rdy found (bx n) = true) : OS ns bx (found ++ [n]) (left.erase n) := by
  obtain ⟨nd1, nd2, nd3⟩ := List.nodup_append.mp o.nd
  refine ⟨List.nodup_append.mpr ⟨List.nodup_append.mpr ⟨nd1, by simp, fun a ha b hb => ?_⟩, nd2.erase n, fun a ha b hb => ?_⟩, fun m => ?_, ?_, fun i m hm x hx hx2 => ?_⟩
  · rw [List.mem_singleton.mp hb]
    exact nd3 a ha n h
  · have hb' := (nd2.mem_erase_iff).mp hb
    rcases List.mem_append.mp ha with ha | ha
    · exact nd3 a ha b hb'.2
    · rw [List.mem_singleton.mp ha]
      exact fun z => hb'.1 z.symm
  · rw [o.mem m, List.mem_append, List.mem_singleton, nd2.mem_erase_iff]
    constructor
    · rintro (z | z)
      · exact .inl (.inl z)
      · by_cases e : m = n
        · exact .inl (.inr e)
        · exact .inr ⟨e, z⟩
    · rintro ((z | z) | z)
      · exact .inl z
      · rw [z]; exact .inr h
      · exact .inr z.2
  · have := List.length_erase_of_mem h
    have h2 := List.length_pos_of_mem h
    have h3 := o.len
    simp only [List.length_append, List.length_cons, List.length_nil]
    omega
  · rw [List.getElem?_append] at hm
    by_cases hi : i < found.length
    · rw [if_pos hi] at hm
      obtain ⟨j, h1, h2⟩ := o.top i m hm x hx hx2
      exact ⟨j, h1, by rw [List.getElem?_append, if_pos (by omega)]; exact h2⟩
    · rw [if_neg hi] at hm
      have e : m = n := by
        cases q : i - found.length with
        | zero => rw [q] at hm; cases hm; rfl
        | succ k => rw [q] at hm; simp at hm
      subst e
      have := List.all_eq_true.mp r x hx
      rw [hx2] at this
      have hq : x.1 ∈ found := of_decide_eq_true (by simpa using this)
      obtain ⟨j, hj⟩ := List.mem_iff_getElem?.mp hq
      have hlt := (List.getElem?_eq_some_iff.mp hj).1
      exact ⟨j, by omega, by rw [List.getElem?_append, if_pos hlt]; exact hj⟩
theorem OS.ord {ns : List Str} {bx : Str → List Wi} {found left : List Str} (o : OS ns bx found left) (h : ∀ n ∈ left, ¬ rdy found (bx n) = true) : Ord ns bx found := by
  refine ⟨(List.nodup_append.mp o.nd).1, fun n hn => (o.mem n).mpr (.inl hn), o.top, fun n hn hz => ?_⟩
  rcases (o.mem n).mp hn with z | z
  · exact z
  · refine absurd (List.all_eq_true.mpr fun x hx => ?_) (h n z)
    cases e : x.2 with
    | nil =>
      rw [decide_eq_true (hz x hx e)]
      rfl
    | cons => rfl
/-- where a name stands first -/
theorem first_at {n : Str} : ∀ {l : List Str}, n ∈ l → ∃ j, l[j]? = some n ∧ (∀ m : Nat, m < j → l[m]? ≠ some n) ∧ l.eraseIdx j = l.erase n
  | a :: l, h => by
    by_cases e : a = n
    · subst e
      exact ⟨0, rfl, fun m hm => by omega, by simp⟩
    · obtain ⟨j, h1, h2, h3⟩ := first_at (l := l) ((List.mem_cons.mp h).elim (fun z => absurd z.symm e) id)
      refine ⟨j + 1, h1, fun m hm => ?_, ?_⟩
      · cases m with
        | zero => exact fun z => e (Option.some.inj z)
        | succ m => exact h2 m (by omega)
      · rw [List.eraseIdx_cons_succ, h3, List.erase_cons_tail (by simpa using e)]
section
variable {P : Program} {w : World} {K : PySem.W.Frag} {mg : Str → Option Value} {base : Heap}
def rdW (found : List Str) : Dt → Bool
  | .tup [.str q, .lst ts] => !ts.isEmpty || decide (q ∈ found)
  | _ => false
theorem rdW_all (found : List Str) (ws : List Wi) : (ws.map wD).all (rdW found) = rdy found ws := by
  unfold rdy
  rw [List.all_map]
  rfl
theorem ok_order_of (T : Txt P K mg) : FnOk P w K mg base CX0 5 T.a_order_of T.d_order_of ["boxes"] (spW K true fun ds P xe => ∃ kvs ns bx, ds = [.dct kvs] ∧ BoxT kvs ns bx ∧ ∀ found, Ord ns bx found → P (.lst (found.map .str))) := by
  refine T.F_order_of.ok sc_order_of (fun vs H Q E h => w_len 1 h fun _ _ _ ⟨_, _, _, e, _⟩ => by rw [e]; rfl) (fun cdv A outer s H vs Q E hr h => ⟨_, PSs.nox (pss_cons (ps_asg (pe_tup (pa_cons (pe_lst pa_nil) (pa_cons (pe_callTy (u_listA K rfl) rfl T.n_list (by decide +kernel) (pa_cons (pv 0) pa_nil)) pa_nil))) (pg_tupK (K := K) (n := 2) rfl (pgs_cons (pg_name (i := 1) sc_order_of.nd rfl (Or.inr rfl)) (pgs_cons (pg_name (i := 2) sc_order_of.nd rfl (Or.inl rfl)) pgs_nil)))) (pss_cons (ps_set (i := 3) sc_order_of.nd rfl (Or.inl rfl) (pe_un un_neg pe_int)) (pss_cons (ps_while PassesOwn.never (pt_cmpR (uNe K (hu64 hr)) (pv 3) (pe_callB (u_lenA K) rfl T.n_len (by decide +kernel) (pa_cons (pv 1) pa_nil)) (nomark _)) (pss_cons (ps_set (i := 3) sc_order_of.nd rfl (Or.inl rfl) (pe_callB (u_lenA K) rfl T.n_len (by decide +kernel) (pa_cons (pv 1) pa_nil))) (pss_one (ps_for PassesOwn.never rfl (pi_anyK (K := K) (pe_callTy (u_listA K rfl) rfl T.n_list (by decide +kernel) (pa_cons (pv 2) pa_nil))) (pg_name (i := 4) sc_order_of.nd rfl (Or.inl rfl)) (pss_one (ps_if (pt_val (pe_callB (u_allA K rfl) rfl T.n_all (by decide +kernel) (pa_cons (pe_lc (own := [("wire", 5)]) (g := gName 5) rfl sc_order_of.nd (pi_anyK (K := K) (pe_call (ok_wires_of_box T) (hr.mono (by omega)) rfl T.g_wires_of_box T.F_wires_of_box.kp T.b_wires_of_box .nil pass0 (pa_cons (pe_ix (uIxA K (hu64 hr)) (pv 0) (pv 4) (fun _ _ => rfl)) pa_nil))) (blkOk_by (N := ["boxes", "found", "left", "many", "name", "wire"]) (sc := defScope s_order_of) (by decide +kernel)) (fun _ _ _ _ _ => (pg_name (i := 5) sc_order_of.nd rfl (Or.inl rfl))) (fun _ _ _ _ _ => pts_nil) (fun _ _ _ _ _ => (pe_or (pe_cmpR (uNe K (hu64 hr)) (pe_ix (uIxA K (hu64 hr)) (pv 5) pe_int (fun _ _ => rfl)) (pe_lst pa_nil) (nomark _)) (pe_one (pe_cmpR (uInA K (hu64 hr)) (pe_ix (uIxA K (hu64 hr)) (pv 5) pe_int (fun _ _ => rfl)) (pv 1) (by with_unfolding_all rfl)))))) pa_nil))) (pss_cons (ps_expr (pe_bm PySem.F.plainAttrs_list PySem.F.slot_list_append PySem.F.type_list_append mt_append (pv 1) (pa_cons (pv 4) pa_nil))) (pss_one (ps_expr (pe_bm PySem.F.plainAttrs_list PySem.F.slot_list_remove PySem.F.type_list_remove mt_removeF (pv 2) (pa_cons (pv 4) pa_nil))))) pss_nil)))))) (pss_one (ps_ret (pv 1)))))), w_start h 6 rfl fun ds P xe ⟨kvs, ns, bx, e, B, hp⟩ => ?_⟩)
  subst e
  refine ⟨Nat.le_of_ble_eq_true rfl, ?_⟩
  have hkeys : (kvs.map fun kv => kDt kv.1) = ns.map Dt.str := by
    have : (kvs.map fun kv => kDt kv.1) = (kvs.map (·.1)).map kDt := by rw [List.map_map]; rfl
    rw [this, B.ks, List.map_map]
    rfl
  refine wd_seq (wd_tupOO (ef_lst (ea_nil ⟨Nat.zero_le _, ef_cb rcf_list (et_var rfl ⟨fun kv hkv z hz => ?_, ?_⟩)⟩)))
  · have : kv.1 ∈ kvs.map (·.1) := List.mem_map_of_mem hkv
    rw [B.ks, hz] at this
    obtain ⟨n, hn, e⟩ := List.mem_map.mp this
    cases e
    exact B.tx _ hn
  rw [hkeys]
  nofun
  refine wd_asg ?_
  nofun
  have o0 : OS ns bx [] ns := ⟨B.nd, fun n => ⟨.inr, fun z => z.elim (fun z => by cases z) id⟩, by simp, fun i n h => by cases h⟩
  refine wd_while (fun m e => ∃ (many : Int) (found left : List Str) (s4 s5 : Sl), e = [.v (.dct kvs), .own (.lst (found.map .str)), .own (.lst (left.map .str)), .v (.int many), s4, s5] ∧ (∀ d, s5 ≠ Sl.own d) ∧ OS ns bx found left ∧ (many = found.length → ∀ n ∈ left, ¬ rdy found (bx n) = true) ∧
    m = 2 * left.length + (if many = found.length then 0 else 1)) (2 * ns.length + 1) ?_ ?_
  · exact ⟨-1, [], ns, .no, .no, rfl, (fun d z => nomatch z), o0, fun z => by simp at z, rfl⟩
  rintro m e ⟨many, found, left, s4, s5, rfl, h5, o, hno, hm⟩
  nofun
  refine v2 (fun hq => ?_) fun hq => ?_
  · have hq : ¬ many = found.length := fun z => of_decide_eq_false hq (by rw [List.length_map]; exact z)
    rw [if_neg hq] at hm
    refine wd_seq (wd_asg (et_cbO rcl_len rfl ⟨rfl, ?_⟩))
    refine wd_for (ei_any rfl (Ef.et (ef_cbO rcf_list rfl ?_)))
    refine ⟨fun i e => ∃ (found' left' : List Str) (s4 s5 : Sl), e = [.v (.dct kvs), .own (.lst (found'.map .str)), .own (.lst (left'.map .str)), .v (.int ((found.map Dt.str).length : Nat)), s4, s5] ∧ (∀ d, s5 ≠ Sl.own d) ∧ OS ns bx found' left' ∧ (∀ n ∈ left.drop i, n ∈ left') ∧ found.length ≤ found'.length ∧
      (found'.length = found.length → found' = found ∧ left' = left ∧ ∀ n ∈ left.take i, ¬ rdy found (bx n) = true), ?_, ?_, ?_⟩
    · exact ⟨found, left, s4, s5, rfl, h5, o, fun n hn => hn, Nat.le_refl _, fun _ => ⟨rfl, rfl, fun n hn => by simp at hn⟩⟩
    · rintro i d e hi ⟨found', left', s4, s5, rfl, h5, o', hdr, hle, heq⟩
      obtain ⟨n, rfl, hin⟩ : ∃ n, d = .str n ∧ left[i]? = some n := by
        rw [List.getElem?_map] at hi
        cases e : left[i]? with
        | none => rw [e] at hi; cases hi
        | some n => rw [e] at hi; cases hi; exact ⟨n, rfl, rfl⟩
      have hd : left.drop i = n :: left.drop (i + 1) := by
        rw [List.getElem?_eq_some_iff] at hin
        obtain ⟨h1, h2⟩ := hin
        rw [← h2, List.drop_eq_getElem_cons h1]
      have ht : left.take (i + 1) = left.take i ++ [n] := by rw [List.take_add_one, hin]; rfl
      have hn' : n ∈ left' := hdr n (by rw [hd]; exact List.mem_cons_self ..)
      obtain ⟨b, hb, hk⟩ := B.bx n ((o'.mem n).mpr (.inr hn'))
      refine tg_name (wd_if (eb_B (et_allY (rdW found') (ei_seq ?_))))
      nofun
      refine ⟨b, hb, ?_⟩
      nofun
      refine r1_i hk.kBox ?_
      rw [hk.wob]
      refine ⟨nown_of (s := s5) rfl h5, fun x hx => ?_, ?_⟩
      · obtain ⟨wi, hwi, rfl⟩ := List.mem_map.mp hx
        obtain ⟨ok1, ok2⟩ := hk.ok wi hwi
        nofun
        refine Ef.et (ef_lst (ea_nil ⟨Nat.zero_le _, fne_nil ok1 (by omega) (v2 (fun h => ?_) fun h => ?_)⟩))
        · refine ⟨rfl, ?_⟩
          show _ = Dt.bl (!wi.2.isEmpty || decide (wi.1 ∈ found'))
          rw [h]
          rfl
        · nofun
          refine ⟨_, rfl, ?_⟩
          nofun
          refine ⟨rfl, ?_⟩
          show _ = Dt.bl (!wi.2.isEmpty || decide (wi.1 ∈ found'))
          rw [h]
          rfl
      rw [rdW_all]
      refine Wv.b2 (fun hr => ?_) fun hr => ?_
      · obtain ⟨j, h1, h2, h3⟩ := first_at hn'
        have hl := o'.len
        have hpos := List.length_pos_of_mem hn'
        have hsz := B.sz
        refine wd_seq (wd_app rfl (et_var rfl ⟨_, rfl, by rw [List.length_map]; omega, ?_⟩))
        refine wd_drop (et_remove rfl (et_var rfl ⟨left', n, j, rfl, rfl, h1, h2, ?_⟩))
        refine ⟨found' ++ [n], left'.erase n, .v (.str n), s5, ?_, h5, o'.step hn' hr, fun m hm => ?_, by simp; omega, fun z => ?_⟩
        · rw [h3, List.map_append]
          rfl
        · have hnd := (List.nodup_append.mp o.nd).2.1
          have hnd2 : (n :: left.drop (i + 1)).Nodup := by rw [← hd]; exact hnd.sublist (List.drop_sublist ..)
          have hne : m ≠ n := fun z => (List.nodup_cons.mp hnd2).1 (by rw [← z]; exact hm)
          exact ((List.nodup_append.mp o'.nd).2.1.mem_erase_iff).mpr ⟨hne, hdr m (by rw [hd]; exact List.mem_cons_of_mem _ hm)⟩
        · simp only [List.length_append, List.length_cons, List.length_nil] at z
          omega
      · refine wd_next ⟨found', left', _, _, rfl, h5, o', fun m hm => hdr m (by rw [hd]; exact List.mem_cons_of_mem _ hm), hle, fun z => ?_⟩
        obtain ⟨z1, z2, z3⟩ := heq z
        refine ⟨z1, z2, fun m hm => ?_⟩
        rw [ht] at hm
        rcases List.mem_append.mp hm with hm | hm
        · exact z3 m hm
        · rw [List.mem_singleton.mp hm, ← z1, hr]
          intro z
          cases z
    · rintro e ⟨found', left', s4, s5, rfl, h5, o', hdr, hle, heq⟩
      rw [List.length_map, List.take_length] at heq
      rw [List.length_map] at hdr
      have hl := o'.len
      have hl0 := o.len
      refine ⟨_, ?_, _, found', left', s4, s5, rfl, h5, o', fun z => ?_, rfl⟩
      · rw [List.length_map]
        split
        · omega
        · rename_i h
          have : ¬ found.length = found'.length := fun z => h (by rw [z])
          omega
      · rw [List.length_map] at z
        obtain ⟨z1, z2, z3⟩ := heq (by omega)
        subst z1 z2
        exact z3
  · have hq : many = found.length := by have := of_decide_eq_true hq; rw [List.length_map] at this; exact this
    exact wd_ret (et_own rfl (hp found (o.ord (hno hq))))
end
end Lw
namespace Lw
open PySem PySem.Spec PyProof.Rows L2 Evl Wv
section
variable {P : Program} {w : World} {K : PySem.W.Frag} {mg : Str → Option Value} {base : Heap}
/-- never called -/
theorem ok_reached (T : Txt P K mg) : FnOk P w K mg base CX0 3 T.a_reached T.d_reached ["boxes", "start", "holds_nothing"] (spW K false fun ds P xe => False) :=
  ⟨fun vs H Q E h => by obtain ⟨_, _, _, _, _, _, _, _, h, _⟩ := h; exact h.elim, fun A outer s H args us vs Q E _ _ _ _ h => by obtain ⟨_, _, _, _, _, _, _, _, h, _⟩ := h; exact h.elim⟩
/-- what checked_boxes promises -/
def RB (T : Txt P K mg) : Rd3 := fun ds P xe => ∃ d, ds = [d] ∧ ((∃ kvs, d = .dct kvs ∧ PreB 12 kvs ∧ match chkB (nmF kvs) kvs (kvs.map fun kv => kDt kv.1) [] [] with
    | .inr f => P (.dct f)
    | .inl k => xe T.c_BadBox [("name", k)]) ∨ isDc d = false ∧ okT d ∧ xe T.c_BadBoxes [("thing", d)])
def RO (T : Txt P K mg) : Rd3 := fun ds P xe => ∃ d bt, ds = [d, .dct bt] ∧ ((∃ kvs, d = .dct kvs ∧ PreB 10 kvs ∧ match chkO bt kvs (kvs.map fun kv => kDt kv.1) [] with
    | .inr f => P (.dct f)
    | .inl k => xe T.c_BadOutput [("name", k)]) ∨ isDc d = false ∧ okT d ∧ xe T.c_BadOutputs [("thing", d)])
/-- a net, of its tables -/
def netD (T : Txt P K mg) (bt ot : List (Key × Dt)) (found : List Str) : Dt := .ins T.c_Net [("box_table", .dct bt), ("output_table", .dct ot), ("order", .lst (found.map .str))]
/-- what Net(boxes, outputs) promises; rings that hold nothing are left out -/
def RN (T : Txt P K mg) : Rd3 := fun ds P xe => ∃ bd od, ds = [bd, od] ∧ RB T [bd] (fun t => ∃ bt ns bx, t = .dct bt ∧ BoxT bt ns bx ∧
  RO T [od, .dct bt] (fun u => ∃ ot, u = .dct ot ∧ ∀ found, Ord ns bx found → found.length = ns.length ∧ P (netD T bt ot found)) xe) xe
theorem ok_Net_init (T : Txt P K mg) : FnOk P w K mg base (L2.CX P w) 15 T.a_Net_init T.d_Net_init ["self", "boxes", "outputs"] (spI K true T.c_Net (RN T)) := by
  refine T.F_Net_init.ok sc_Net_init (fun vs H Q E h => i_len 2 h fun _ _ _ ⟨_, _, e, _⟩ => by rw [e]; rfl) (fun cdv A outer s H vs Q E hr h => ⟨_, (pss_cons (ps_fld (pv 0) (pe_call (ok_checked_boxes T) (hr.mono (by omega)) rfl T.g_checked_boxes T.F_checked_boxes.kp T.b_checked_boxes .nil (passes_call (takes_of rfl rfl rfl rfl) fun _ _ _ _ h => h) (pa_cons (pv 1) pa_nil)) rfl) (pss_cons (ps_fld (pv 0) (pe_call (ok_checked_outputs T) (hr.mono (by omega)) rfl T.g_checked_outputs T.F_checked_outputs.kp T.b_checked_outputs .nil (passes_call (takes_of rfl rfl rfl rfl) fun _ _ _ _ h => h) (pa_cons (pv 2) (pa_cons (pe_fld (pv 0) rfl) pa_nil))) rfl) (pss_cons (ps_fld (pv 0) (pe_call (ok_order_of T) (hr.mono (by omega)) rfl T.g_order_of T.F_order_of.kp T.b_order_of .nil pass0 (pa_cons (pe_fld (pv 0) rfl) pa_nil)) rfl) (pss_one (ps_if (pt_cmpR op_lt (pe_callB (u_lenA K) rfl T.n_len (by decide +kernel) (pa_cons (pe_fld (pv 0) rfl) pa_nil)) (pe_callB (u_lenA K) rfl T.n_len (by decide +kernel) (pa_cons (pe_fld (pv 0) rfl) pa_nil)) (nomark _)) (pss_one (ps_for (passes_of rfl) rfl (pi_anyK (K := K) (pe_fld (pv 0) rfl)) (pg_name (i := 3) sc_Net_init.nd rfl (Or.inl rfl)) (pss_one (ps_if (pt_cmpR (uInA K (hu64 hr)) (pv 3) (pe_call (ok_reached T) (hr.mono (by omega)) rfl T.g_reached T.F_reached.kp T.b_reached .nil pass0 (pa_cons (pe_fld (pv 0) rfl) (pa_cons (pv 3) (pa_cons pe_bl pa_nil)))) (by with_unfolding_all rfl)) (pss_one (ps_raiseW rfl (takes_of rfl rfl rfl rfl) (pmk_sx (k := 0) T.X_Ring (hr.mono (by omega)) T.g_Ring (ExcC.ra T.e_Ring T.X_Ring) (pa_cons (pv 3) pa_nil)))) pss_nil)))) pss_nil))))), ?_⟩)
  obtain ⟨c, x, vs', ds, Pd, xe, rfl, N0, rs, ⟨bd, od, rfl, hR⟩, hq, L⟩ := h
  match vs', rs with
  | [], rs => exact absurd rs.1 (by simp)
  | [_], rs => exact absurd rs.1 (by simp)
  | _ :: _ :: _ :: _, rs => exact absurd rs.1 (by simp)
  | [vb, vo], rs =>
    have rb := rs.2 0 vb bd rfl rfl
    have ro := rs.2 1 vo od rfl rfl
    have La := L.add (p := x) N0.cso
    have hlk : lkle true c.lk := fun _ => L.1.symm
    have one : ∀ {H : Hp} {v : V} {d : Dt}, Rv c.so (c.add x).O H v d → Rvs c.so (c.add x).O H [v] [d] := fun r => Rvs.cons r Rvs.nil
    refine ⟨vb, rfl, N0.call (R := RB T) hlk La (one rb) hR fun v1 d1 H1 ⟨bt, ns, bx, e1, hB, hO⟩ N1 k1 r1 => ?_⟩
    subst e1
    refine N1.store (i := 0) rfl T.l_Net T.o_Net_box_table (by decide) r1 fun H2 N2 k2 => ?_
    obtain ⟨dx, xs, y, z1, z2, z3⟩ := N2.get (f := "box_table") (t := .dct bt) rfl
    refine ⟨vo, rfl, .ref x, rfl, x, _, dx, xs, y, rfl, z1, T.l_Net, T.o_Net_box_table, z2, N2.call (R := RO T) hlk La (Rvs.cons (k2 _ _ (k1 _ _ ro)) (one z3)) hO fun v3 d3 H3 ⟨ot, e3, hF⟩ N3 k3 r3 => ?_⟩
    subst e3
    refine N3.store (i := 0) rfl T.l_Net T.o_Net_output_table (Nat.le_of_ble_eq_true rfl) r3 fun H4 N4 k4 => ?_
    obtain ⟨dx, xs, y, z1, z2, z3⟩ := N4.get (f := "box_table") (t := .dct bt) rfl
    refine ⟨.ref x, rfl, x, _, dx, xs, y, rfl, z1, T.l_Net, T.o_Net_box_table, z2, ?_⟩
    refine N4.call (Pd := fun d => ∃ found, d = .lst (found.map .str) ∧ Ord ns bx found) (xe := fun _ _ => False) (E := E0) (lk := true) hlk ⟨L.1, fun C fs z => z.elim, .inl rfl⟩ (one z3) ⟨_, ns, bx, rfl, hB, fun found hf => ⟨found, rfl, hf⟩⟩ fun v5 d5 H5 ⟨found, e5, ho⟩ N5 k5 r5 => ?_
    subst e5
    refine N5.store (i := 0) rfl T.l_Net T.o_Net_order (Nat.le_of_ble_eq_true rfl) r5 fun H6 N6 k6 => ?_
    obtain ⟨hl, hp⟩ := hF found ho
    have e : putD "order" (.lst (found.map .str)) (putD "output_table" (.dct ot) (putD "box_table" (.dct bt) [])) = ([("box_table", .dct bt), ("output_table", .dct ot), ("order", .lst (found.map .str))] : List (Str × Dt)) := rfl
    rw [e] at N6
    dsimp only
    refine N6.rest (σ := L2.start ["self", "boxes", "outputs", "name"] [.ref x, vb, vo]) (Pd := Pd) (xe := xe) L (by rfl) 3 (by rfl) (fun H' => hq _ H') ?_
    have hbl : bt.length = ns.length := by have := congrArg List.length hB.ks; simpa using this
    refine wd_if (eb_test (et_op rop_lt (et_cb rcl_len (ea_cons (et_fld T.l_Net T.o_Net_order (et_var rfl ⟨_, _, rfl, rfl, ea_nil ?_⟩)))))) 
    show Et _ _ _ _
    refine et_cb rcl_len (ea_cons (et_fld T.l_Net T.o_Net_box_table (et_var rfl ⟨_, _, rfl, rfl, ea_nil ?_⟩)))
    refine bf (decide_eq_false ?_) (wd_next hp)
    rw [List.length_map]
    omega
end
end Lw
namespace Lw
open PySem PySem.Spec PyProof.Rows L2 Evl Wv
theorem dpt_new {kvs : List (Key × Dt)} {k : Key} {v : Dt} (h : k ∉ kvs.map (·.1)) : dpt kvs k v = kvs ++ [(k, v)] := by
  unfold dpt
  rw [if_neg]
  intro z
  obtain ⟨q, hq, e⟩ := List.any_eq_true.mp z
  exact h (by rw [← of_decide_eq_true e]; exact List.mem_map_of_mem hq)
/-! ### ground terms as they are kept -/
def cg : Nat → Dt → Bool
  | 0, _ => false
  | _ + 1, .str z => wordD (.str z)
  | n + 1, .tup (.str z :: xs) => wordD (.str z) && (decide (1 ≤ xs.length ∧ xs.length ≤ 4) && xs.all (cg n))
  | _, _ => false
theorem cg_inv {n : Nat} {d : Dt} (h : cg n d = true) : ∃ m, n = m + 1 ∧ ((∃ z, d = .str z ∧ wordD (.str z) = true) ∨ ∃ z xs, d = .tup (.str z :: xs) ∧ wordD (.str z) = true ∧ (1 ≤ xs.length ∧ xs.length ≤ 4) ∧ ∀ x ∈ xs, cg m x = true) := by
  cases n with
  | zero => unfold cg at h; cases h
  | succ n =>
    refine ⟨n, rfl, ?_⟩
    match d, h with
    | .str z, h => unfold cg at h; exact .inl ⟨z, rfl, h⟩
    | .tup (.str z :: xs), h =>
      unfold cg at h
      obtain ⟨h1, h⟩ := Bool.and_eq_true_iff.mp h
      obtain ⟨h2, h3⟩ := Bool.and_eq_true_iff.mp h
      exact .inr ⟨z, xs, rfl, h1, of_decide_eq_true h2, fun x hx => List.all_eq_true.mp h3 x hx⟩
    | .tup [], h => unfold cg at h; cases h
    | .tup (.non :: _), h => unfold cg at h; cases h
    | .tup (.bl _ :: _), h => unfold cg at h; cases h
    | .tup (.int _ :: _), h => unfold cg at h; cases h
    | .tup (.lst _ :: _), h => unfold cg at h; cases h
    | .tup (.tup _ :: _), h => unfold cg at h; cases h
    | .tup (.dct _ :: _), h => unfold cg at h; cases h
    | .tup (.ins _ _ :: _), h => unfold cg at h; cases h
    | .tup (.st :: _), h => unfold cg at h; cases h
    | .non, h => unfold cg at h; cases h
    | .bl _, h => unfold cg at h; cases h
    | .int _, h => unfold cg at h; cases h
    | .lst _, h => unfold cg at h; cases h
    | .dct _, h => unfold cg at h; cases h
    | .ins _ _, h => unfold cg at h; cases h
    | .st, h => unfold cg at h; cases h
theorem word_ok {z : Str} (h : wordD (.str z) = true) : PyData.strOk z = true ∧ z.length < 9 ∧ 0 < z.length := by
  unfold wordD at h
  obtain ⟨h1, h2⟩ := Bool.and_eq_true_iff.mp h
  have h1 := of_decide_eq_true h1
  refine ⟨?_, h1.2, h1.1⟩
  unfold PyData.strOk
  rw [← Array.all_toList, List.all_eq_true]
  intro c hc
  have := List.all_eq_true.mp h2 (.str ⟨#[c]⟩) (by unfold strD; exact List.mem_map.mpr ⟨c, hc, rfl⟩)
  have hl : c ∈ LET.cps.toList := of_decide_eq_true this
  have := List.all_eq_true.mp (show (LET.cps.toList.all fun c => decide (c < 0x110000)) = true by decide +kernel) c hl
  exact this
theorem cg_gr : ∀ {n : Nat} {d : Dt}, cg n d = true → grF n d = true
  | 0, _, h => by unfold cg at h; cases h
  | n + 1, d, h => by
    obtain ⟨m, e, h⟩ := cg_inv h
    cases e
    unfold grF
    rcases h with ⟨z, rfl, hz⟩ | ⟨z, xs, rfl, hz, hl, hx⟩
    · rw [hz]; rfl
    · have e1 : wordD (.tup (.str z :: xs)) = false := rfl
      rw [e1, Bool.false_or]
      show (decide (2 ≤ (Dt.str z :: xs).length ∧ (Dt.str z :: xs).length ≤ 5) && (wordD (.str z) && xs.all (grF n))) = true
      rw [hz, decide_eq_true (by rw [List.length_cons]; omega), Bool.true_and, Bool.true_and, List.all_eq_true]
      exact fun x hm => cg_gr (hx x hm)
theorem cg_as : ∀ {n : Nat} {d : Dt}, cg n d = true → asF n d = d
  | 0, _, h => by unfold cg at h; cases h
  | n + 1, d, h => by
    obtain ⟨m, e, h⟩ := cg_inv h
    cases e
    unfold asF
    rcases h with ⟨z, rfl, hz⟩ | ⟨z, xs, rfl, hz, hl, hx⟩
    · rfl
    · show Dt.tup (.str z :: xs.map (asF n)) = _
      have e : xs.map (asF n) = xs := by
        have := List.map_congr_left (l := xs) (f := asF n) (g := id) fun x hm => cg_as (hx x hm)
        rw [this, List.map_id]
      rw [e]
theorem cg_dat : ∀ {n : Nat} {d : Dt}, cg n d = true → dat d = true
  | 0, _, h => by unfold cg at h; cases h
  | n + 1, d, h => by
    obtain ⟨m, e, h⟩ := cg_inv h
    cases e
    rcases h with ⟨z, rfl, hz⟩ | ⟨z, xs, rfl, hz, hl, hx⟩
    · unfold dat; exact (word_ok hz).1
    · unfold dat dats
      rw [show dat (.str z) = true from by unfold dat; exact (word_ok hz).1, Bool.true_and]
      exact dats_of fun x hm => cg_dat (hx x hm)
theorem cg_dep : ∀ {n : Nat} {d : Dt}, cg n d = true → dep d < n
  | 0, _, h => by unfold cg at h; cases h
  | n + 1, d, h => by
    obtain ⟨m, e, h⟩ := cg_inv h
    cases e
    rcases h with ⟨z, rfl, hz⟩ | ⟨z, xs, rfl, hz, hl, hx⟩
    · unfold dep; omega
    · rw [dep_tup]
      cases n with
      | zero =>
        cases xs with
        | nil => simp at hl
        | cons x xs => have := hx x (List.mem_cons_self ..); unfold cg at this; cases this
      | succ k =>
        have : deps (.str z :: xs) ≤ k := deps_le fun x hm => by
          rcases List.mem_cons.mp hm with e | hm
          · rw [e]; unfold dep; omega
          · have := cg_dep (hx x hm); omega
        omega
mutual
theorem pur_dat : ∀ (d : Dt), dat d = true → pur d = true
  | .non, _ => by unfold pur; rfl
  | .bl _, _ => by unfold pur; rfl
  | .int _, _ => by unfold pur; rfl
  | .str _, _ => by unfold pur; rfl
  | .lst xs, h => by unfold dat at h; unfold pur; exact purs_dats xs h
  | .tup xs, h => by unfold dat at h; unfold pur; exact purs_dats xs h
  | .dct _, h => by unfold dat at h; cases h
  | .ins _ _, h => by unfold dat at h; cases h
  | .st, h => by unfold dat at h; cases h
theorem purs_dats : ∀ (xs : List Dt), dats xs = true → purs xs = true
  | [], _ => by unfold purs; rfl
  | x :: xs, h => by
    unfold dats at h
    obtain ⟨a, b⟩ := Bool.and_eq_true_iff.mp h
    unfold purs
    rw [pur_dat x a, purs_dats xs b]
    rfl
end
theorem dats_cg {n : Nat} {xs : List Dt} (h : ∀ x ∈ xs, cg n x = true) : dats xs = true := dats_of fun x hx => cg_dat (h x hx)
theorem deps_cg {n : Nat} {xs : List Dt} (h : ∀ x ∈ xs, cg n x = true) : deps xs ≤ n := deps_le fun x hx => Nat.le_of_lt (cg_dep (h x hx))
def unW : Dt → Option Wi
  | .tup [.str z, .lst ts] => some (z, ts)
  | _ => none
theorem cg_mono : ∀ {n m : Nat} {d : Dt}, cg n d = true → n ≤ m → cg m d = true
  | 0, _, _, h, _ => by unfold cg at h; cases h
  | n + 1, 0, _, _, h => by omega
  | n + 1, m + 1, d, h, hm => by
    obtain ⟨k, e, h⟩ := cg_inv h
    cases e
    rcases h with ⟨z, rfl, hz⟩ | ⟨z, xs, rfl, hz, hl, hx⟩
    · unfold cg; exact hz
    · unfold cg
      rw [hz, decide_eq_true hl, Bool.true_and, Bool.true_and, List.all_eq_true]
      exact fun x hm2 => cg_mono (hx x hm2) (by omega)
/-- kept wires of kept terms -/
theorem wD_dat {n : Nat} {x : Wi} (hz : PyData.strOk x.1 = true) (h : ∀ t ∈ x.2, cg n t = true) : dat (wD x) = true := by
  unfold wD dat dats dats dats
  rw [show dat (.str x.1) = true from by unfold dat; exact hz, show dat (.lst x.2) = true from by unfold dat; exact dats_cg h]
  rfl
theorem wD_dep {n : Nat} {x : Wi} (h : ∀ t ∈ x.2, cg n t = true) : dep (wD x) ≤ n + 2 := by
  unfold wD
  rw [dep_tup]
  have : deps [.str x.1, .lst x.2] ≤ n + 1 := deps_le fun y hy => by
    rcases List.mem_cons.mp hy with e | hy
    · rw [e]; unfold dep; omega
    · rw [List.mem_singleton.mp hy, dep_lst]; have := deps_cg h; omega
  omega
end Lw
namespace Lw
open PySem PySem.Spec PyProof.Rows L2 Evl Wv
set_option hygiene false in
local macro_rules
  | `(tactic| nofun) => `(tactic| repeat' (first | (with_reducible show Et _ _ _ _; first | with_reducible refine et_popAt (by with_unfolding_all rfl) ?_ | with_reducible refine et_var (by with_unfolding_all rfl) ?_ | with_reducible refine et_int ?_ | with_reducible refine et_str ?_ | with_reducible refine et_bl ?_ | with_reducible refine et_non ?_ | with_reducible refine et_andV ?_ | with_reducible refine et_orV ?_ | with_reducible refine et_notV ?_ | with_reducible refine et_if ?_ | with_reducible refine et_isStr ?_ | with_reducible refine et_isInt ?_ | with_reducible refine et_isBool ?_ | with_reducible refine et_isDict ?_ | with_reducible refine et_isList ?_ | with_reducible refine et_isTuple ?_ | with_reducible refine et_isLT ?_ | with_reducible refine et_tup ?_ | with_reducible refine et_neg ?_ | with_reducible refine et_ixO (by with_unfolding_all rfl) ?_ | with_reducible refine et_opL (by first | exact rop_ix | exact rop_eq | exact rop_ne | exact rop_in | exact rop_ni | exact rop_add | exact rop_sub | exact rop_mul | exact rop_lt | exact rop_le | exact rop_gt | exact rop_ge | exact rop_mod | exact rop_div | exact rop_isN | exact rop_notN) (by with_unfolding_all rfl) ?_ | with_reducible refine et_opRo (by first | exact rop_ix | exact rop_eq | exact rop_ne | exact rop_in | exact rop_ni | exact rop_add | exact rop_sub | exact rop_mul | exact rop_lt | exact rop_le | exact rop_gt | exact rop_ge | exact rop_mod | exact rop_div | exact rop_isN | exact rop_notN) (by with_unfolding_all rfl) ?_ | with_reducible refine et_op (by first | exact rop_ix | exact rop_eq | exact rop_ne | exact rop_in | exact rop_ni | exact rop_add | exact rop_sub | exact rop_mul | exact rop_lt | exact rop_le | exact rop_gt | exact rop_ge | exact rop_mod | exact rop_div | exact rop_isN | exact rop_notN) ?_ | with_reducible refine et_cbO (by first | exact rcl_len | exact rcl_int | exact rcl_sum | exact rcl_max | exact rcl_min | exact rcl_all | exact rcl_any) (by with_unfolding_all rfl) ?_ | with_reducible refine et_cb (by first | exact rcl_len | exact rcl_int | exact rcl_sum | exact rcl_max | exact rcl_min | exact rcl_all | exact rcl_any) ?_ | with_reducible refine et_chain (by first | exact rop_ix | exact rop_eq | exact rop_ne | exact rop_in | exact rop_ni | exact rop_add | exact rop_sub | exact rop_mul | exact rop_lt | exact rop_le | exact rop_gt | exact rop_ge | exact rop_mod | exact rop_div | exact rop_isN | exact rop_notN) (by first | exact rop_ix | exact rop_eq | exact rop_ne | exact rop_in | exact rop_ni | exact rop_add | exact rop_sub | exact rop_mul | exact rop_lt | exact rop_le | exact rop_gt | exact rop_ge | exact rop_mod | exact rop_div | exact rop_isN | exact rop_notN) ?_ | with_reducible refine et_dget2 ?_ | with_reducible refine et_call0 nolk ?_ | with_reducible refine et_call0 samelk ?_ | with_reducible refine et_sl ?_) | (with_reducible show Wd _ _ _ _; first | with_reducible refine wd_seq ?_ | with_reducible refine wd_if ?_ | with_reducible refine wd_ret ?_ | with_reducible refine wd_next ?_ | with_reducible refine wd_raise ?_) | (with_reducible show Ea _ _ _ _; first | with_reducible refine ea_nil ?_ | with_reducible refine ea_cons ?_) | (with_reducible show Eb _ _ _ _; first | with_reducible refine eb_or ?_ | with_reducible refine eb_and ?_ | with_reducible refine eb_not ?_ | with_reducible refine eb_B ?_ | with_reducible refine eb_test ?_) | (with_reducible show Eo _ _ _ _; first | with_reducible refine eo_none ?_ | with_reducible refine eo_some ?_) | with_reducible refine isTyI (by first | with_unfolding_all rfl | assumption | exact pur_ok (by assumption)) ?_ | with_reducible refine iteT ?_ | with_reducible refine iteF ?_ | with_reducible refine bt (by first | with_unfolding_all rfl | assumption) ?_ | with_reducible refine bf (by first | with_unfolding_all rfl | assumption) ?_ | with_reducible refine nt (by first | with_unfolding_all rfl | assumption) ?_ | with_reducible refine nf (by first | with_unfolding_all rfl | assumption) ?_ | with_reducible refine fin_s ?_ | with_reducible refine fni_s ?_ | with_reducible refine fx0 (by first | with_unfolding_all rfl | assumption) ?_ | with_reducible refine fx1 (by first | with_unfolding_all rfl | assumption) ?_ | with_reducible refine fx2 (by first | with_unfolding_all rfl | assumption) ?_ | with_reducible refine fxlen (by first | with_unfolding_all rfl | assumption) ?_ | with_reducible refine fxit (by first | with_unfolding_all rfl | assumption) ?_ | with_reducible refine feq_i ?_ | with_reducible refine feq_s ?_ | with_reducible refine fne_i ?_ | with_reducible refine fne_s ?_ | with_reducible refine r1_i (by first | with_unfolding_all rfl | assumption | exact pur_ok (by assumption)) ?_ | with_reducible refine sclI (by with_unfolding_all rfl) ?_ | with_reducible refine lenI (by with_unfolding_all rfl) ?_ | with_reducible refine eI ?_))
section
variable {P : Program} {w : World} {K : PySem.W.Frag} {mg : Str → Option Value} {base : Heap}
/-! ### parts of drawn nets -/
def arT : List (Str × Int) := [("f", 2), ("g", 1), ("h", 2), ("k", 1), ("m", 3), ("w", 4)]
def RArity : Rd3 := fun ds P _ => ∃ z n, ds = [.str z] ∧ (z, n) ∈ arT ∧ P (.int n)
theorem w_arity (T : Txt P K mg) : FnOk P w K mg base CX0 1 T.a_arity T.d_arity ["_law_f"] (spW K false RArity) := by
  refine T.F_arity.ok sc_arity (fun vs H Q E h => w_len 1 h fun _ _ _ ⟨_, _, e, _⟩ => by rw [e]; rfl) (fun cdv A outer s H vs Q E hr h => ⟨_, PSs.nox (pss_one (ps_ret (pe_ix (uIxA K (hu64 hr)) (pe_disp (pps_cons pe_str pe_int (pps_cons pe_str pe_int (pps_cons pe_str pe_int (pps_cons pe_str pe_int (pps_cons pe_str pe_int (pps_cons pe_str pe_int pps_nil)))))) rfl rfl (by decide) (by decide)) (pv 0) (fun _ _ => rfl)))), w_start h 1 rfl fun ds P xe ⟨z, n, e, hm, p⟩ => ?_⟩)
  subst e
  refine ⟨Nat.le_of_ble_eq_true rfl, ?_⟩
  refine wd_ret (et_op rop_ix (Ef.et (ef_disp arT rfl (by decide) (et_var rfl ?_))))
  unfold arT at hm
  iterate 6
    rcases List.mem_cons.mp hm with e | hm
    · cases e; exact ⟨_, rfl, p⟩
  cases hm
theorem dats_str {l : List Str} (h : l.all PyData.strOk = true) : dats (l.map .str) = true := dats_of fun x hx => by
  obtain ⟨z, hz, rfl⟩ := List.mem_map.mp hx
  unfold dat
  exact List.all_eq_true.mp h z hz
theorem dep_str (z : Str) : dep (.str z) = 0 := by unfold dep; rfl
theorem deps_str (l : List Str) : deps (l.map .str) = 0 := Nat.le_zero.mp (deps_le fun x hx => by
  obtain ⟨z, hz, rfl⟩ := List.mem_map.mp hx
  rw [dep_str]
  exact Nat.le_refl _)
def unS : Dt → Option Str
  | .str z => some z
  | _ => none
theorem perm_str {ys : List Dt} {l : List Str} (h : ys.Perm (l.map .str)) : ∃ l' : List Str, l'.Perm l ∧ ys = l'.map .str := by
  refine ⟨ys.filterMap unS, ?_, ?_⟩
  · have := h.filterMap unS
    rw [List.filterMap_map] at this
    have e : (unS ∘ Dt.str) = some := rfl
    rw [e, List.filterMap_some] at this
    exact this
  · have all : ∀ y ∈ ys, ∃ z, y = .str z := fun y hy => by
      obtain ⟨z, _, e⟩ := List.mem_map.mp (h.mem_iff.mp hy)
      exact ⟨z, e.symm⟩
    clear h
    induction ys with
    | nil => rfl
    | cons y ys ih =>
      obtain ⟨z, rfl⟩ := all y (List.mem_cons_self ..)
      rw [List.filterMap_cons, show unS (.str z) = some z from rfl]
      simp only [List.map_cons]
      rw [← ih fun y hy => all y (List.mem_cons_of_mem _ hy)]
theorem ctD_to (ds : List Dt) (n : Nat) : ctD ds none (some (n : Int)) = ds.take n := by
  unfold ctD
  rw [HT.sIx_none, HT.sIx_nat, List.drop_zero, Nat.sub_zero]
  by_cases h : n ≤ ds.length
  · rw [Nat.min_eq_left h]
  · rw [Nat.min_eq_right (by omega), List.take_of_length_le (Nat.le_refl _), List.take_of_length_le (by omega)]
/-- names of boxes -/
def bxN : List Str := ["a", "b", "n", "p", "q", "s", "x", "f", "aa"]
def RNames : Rd3 := fun ds P _ => ∃ many : Nat, ds = [.st, .int many] ∧ many ≤ 9 ∧ ∀ ns : List Str, ns.Nodup → ns.length = many → (∀ n ∈ ns, n ∈ bxN) → P (.lst (ns.map .str))
theorem w_names (T : Txt P K mg) : FnOk P w K mg base CX0 5 T.a_names T.d_names ["_law_state", "_law_many"] (spW K false RNames) := by
  refine T.F_names.ok sc_names (fun vs H Q E h => w_len 2 h fun _ _ _ ⟨_, e, _⟩ => by rw [e]; rfl) (fun cdv A outer s H vs Q E hr h => ⟨_, PSs.nox (pss_one (ps_ret (pe_slice (uSlA K) (pe_call (w_mix T) (hr.mono (by omega)) rfl T.g_mix T.F_mix.kp T.b_mix .nil pass0 (pa_cons (pv 0) (pa_cons (pe_lst (pa_cons pe_str (pa_cons pe_str (pa_cons pe_str (pa_cons pe_str (pa_cons pe_str (pa_cons pe_str (pa_cons pe_str (pa_cons pe_str (pa_cons pe_str pa_nil)))))))))) pa_nil))) po_none (po_some (pv 1))))), w_start h 2 rfl fun ds P xe ⟨many, e, hm, p⟩ => ?_⟩)
  subst e
  refine ⟨Nat.le_of_ble_eq_true rfl, ?_⟩
  refine wd_ret (et_sl (et_call0 nolk (ea_cons (et_var rfl (ea_cons (Ef.et (ef_lst ?_)))))))
  nofun
  refine ⟨_, bxN.map .str, rfl, rfl, ⟨by decide, dats_str (by decide +kernel), by rw [deps_str]; decide⟩, fun ys hy => eo_none (eo_some (et_var rfl ⟨_, rfl, ?_⟩))⟩
  obtain ⟨l, hl, rfl⟩ := perm_str hy
  show P (.lst (ctD (l.map .str) none (some (many : Int))))
  rw [ctD_to, ← List.map_take]
  have hlen : l.length = 9 := hl.length_eq
  exact p _ ((hl.nodup_iff.mpr (by decide)).sublist (List.take_sublist ..)) (by rw [List.length_take]; omega) fun n hn => hl.mem_iff.mp (List.mem_of_mem_take hn)
def W5 : List Dt := [.str "c", .str "d", .str "e", .str "x", .str "f"]
theorem w5_ok : ∀ w ∈ W5, cg 7 w = true := List.all_eq_true.mp (by decide +kernel)
def t6 (w : Dt) : List Dt := [.tup [.str "g", w], .tup [.str "f", w, .str "c"], .tup [.str "k", .tup [.str "g", .str "d"]], .tup [.str "x", w]] ++ [.tup [.str "q", w, .str "c", .str "d", .str "c"], .tup [.str "f", .tup [.str "f", w, .str "d"], .tup [.str "g", .str "c"]]]
theorem t6_ok : ∀ w ∈ W5, ∀ t ∈ t6 w, cg 7 t = true := fun w hw => List.all_eq_true.mp (List.all_eq_true.mp (show (W5.all fun w => (t6 w).all (cg 7)) = true by decide +kernel) w hw)
/-- start words: names and terms -/
def RStarts : Rd3 := fun ds P _ => ∃ (many : Nat) (pl : Bool), ds = [.st, .int many, .bl pl] ∧ many ≤ 8 ∧ ∀ ts : List Dt, ts.length = many → (∀ t ∈ ts, cg 7 t = true) → P (.lst ts)
theorem w_starts (T : Txt P K mg) : FnOk P w K mg base CX0 5 T.a_starts T.d_starts ["_law_state", "_law_many", "_law_is_plain"] (spW K false RStarts) := by
  refine T.F_starts.ok sc_starts (fun vs H Q E h => w_len 3 h fun _ _ _ ⟨_, _, e, _⟩ => by rw [e]; rfl) (fun cdv A outer s H vs Q E hr h => ⟨_, PSs.nox (pss_cons (ps_set (i := 3) sc_starts.nd rfl (Or.inl rfl) (pe_lst pa_nil)) (pss_cons (ps_for PassesOwn.never rfl (pi_range1 rfl T.n_range (pa_cons (pv 1) pa_nil)) (pg_name (i := 4) sc_starts.nd rfl (Or.inl rfl)) (pss_cons (ps_set (i := 5) sc_starts.nd rfl (Or.inl rfl) (pe_call (w_one T) (hr.mono (by omega)) rfl T.g_one T.F_one.kp T.b_one .nil pass0 (pa_cons (pv 0) (pa_cons (pe_lst (pa_cons pe_str (pa_cons pe_str (pa_cons pe_str (pa_cons pe_str (pa_cons pe_str pa_nil)))))) pa_nil)))) (pss_cons (ps_if (PW.pt (pw_and (pt_not (pt_val (pv 2))) (pw_and1 (pt_cmpR (uEq K (hu64 hr)) (pe_call (w_take T) (hr.mono (by omega)) rfl T.g_take T.F_take.kp T.b_take .nil pass0 (pa_cons (pv 0) (pa_cons pe_int pa_nil))) pe_int (nomark _))))) (pss_cons (ps_set (i := 6) sc_starts.nd rfl (Or.inl rfl) (pe_lst (pa_cons (pe_tup (pa_cons pe_str (pa_cons (pv 5) pa_nil))) (pa_cons (pe_tup (pa_cons pe_str (pa_cons (pv 5) (pa_cons pe_str pa_nil)))) (pa_cons (pe_tup (pa_cons pe_str (pa_cons (pe_tup (pa_cons pe_str (pa_cons pe_str pa_nil))) pa_nil))) (pa_cons (pe_tup (pa_cons pe_str (pa_cons (pv 5) pa_nil))) pa_nil)))))) (pss_one (ps_set (i := 5) sc_starts.nd rfl (Or.inl rfl) (pe_call (w_one T) (hr.mono (by omega)) rfl T.g_one T.F_one.kp T.b_one .nil pass0 (pa_cons (pv 0) (pa_cons (pe_op (uAdd K) (pv 6) (pe_lst (pa_cons (pe_tup (pa_cons pe_str (pa_cons (pv 5) (pa_cons pe_str (pa_cons pe_str (pa_cons pe_str pa_nil)))))) (pa_cons (pe_tup (pa_cons pe_str (pa_cons (pe_tup (pa_cons pe_str (pa_cons (pv 5) (pa_cons pe_str pa_nil)))) (pa_cons (pe_tup (pa_cons pe_str (pa_cons pe_str pa_nil))) pa_nil)))) pa_nil)))) pa_nil)))))) pss_nil) (pss_one (ps_expr (pe_bm PySem.F.plainAttrs_list PySem.F.slot_list_append PySem.F.type_list_append mt_append (pv 3) (pa_cons (pv 5) pa_nil))))))) (pss_one (ps_ret (pv 3))))), w_start h 7 rfl fun ds P xe ⟨many, pl, e, hm, p⟩ => ?_⟩)
  subst e
  refine ⟨Nat.le_of_ble_eq_true rfl, ?_⟩
  refine wd_seq (wd_asgO (ef_lst (ea_nil ⟨Nat.zero_le _, ?_⟩)))
  refine wd_seq (wd_for (ei_rng1 (ea_cons (et_var rfl (ea_nil ⟨_, rfl, by simp only [Zz]; omega, by omega, ?_⟩)))))
  have hln : (rngD 0 ((many : Int)).toNat).length = many := by rw [rngD_len]; omega
  refine ⟨fun i e => ∃ (ts : List Dt) (s4 s5 s6 : Sl), e = [.v .st, .v (.int many), .v (.bl pl), .own (.lst ts), s4, s5, s6] ∧ ts.length = i ∧ ∀ t ∈ ts, cg 7 t = true, ⟨[], .no, .no, .no, rfl, rfl, fun t h => by cases h⟩, ?_, ?_⟩
  · rintro i d e hi ⟨ts, s4, s5, s6, rfl, hl, hg⟩
    have hlt : i < many := by have := (List.getElem?_eq_some_iff.mp hi).1; rw [hln] at this; exact this
    refine tg_name (wd_seq (wd_asg (et_call0 nolk (ea_cons (et_var rfl (ea_cons (Ef.et (ef_lst ?_))))))))
    nofun
    refine ⟨_, W5, rfl, rfl, ⟨by decide, by decide⟩, fun j w hw => ?_⟩
    have hw5 : w ∈ W5 := List.mem_of_getElem? hw
    have app : ∀ {bk : List Sl → Prop} (t : Dt) (s4 s5 s6 : Sl), cg 7 t = true → s5 = .v t → Wd ⟨K, E, xe, false, []⟩ [.v .st, .v (.int many), .v (.bl pl), .own (.lst ts), s4, s5, s6] (tDrop (tBM K "list" rAppend (tVar 3) (tCons (tVar 5) tNil))) { nx := fun e => ∃ (ts : List Dt) (s4 s5 s6 : Sl), e = [.v .st, .v (.int many), .v (.bl pl), .own (.lst ts), s4, s5, s6] ∧ ts.length = i + 1 ∧ ∀ t ∈ ts, cg 7 t = true, ct := fun e => ∃ (ts : List Dt) (s4 s5 s6 : Sl), e = [.v .st, .v (.int many), .v (.bl pl), .own (.lst ts), s4, s5, s6] ∧ ts.length = i + 1 ∧ ∀ t ∈ ts, cg 7 t = true, bk := bk, rt := P } := fun t s4 s5 s6 ht e5 => by
      subst e5
      refine wd_app rfl (et_var rfl ⟨ts, rfl, by simp only [Zz]; omega, ts ++ [t], s4, _, s6, rfl, by simp [hl], fun u hu => ?_⟩)
      rcases List.mem_append.mp hu with hu | hu
      · exact hg u hu
      · rw [List.mem_singleton.mp hu]; exact ht
    cases pl with
    | true =>
      nofun
      exact app w (.v d) _ s6 (w5_ok w hw5) rfl
    | false =>
      nofun
      refine ⟨4, rfl, by decide, fun k h0 h1 => ?_⟩
      nofun
      refine Wv.b2 (fun hk => ?_) fun hk => ?_
      · refine wd_seq (wd_asg (Ef.et (ef_lst ?_)))
        nofun
        refine wd_asg (et_call0 nolk (ea_cons (et_var rfl (ea_cons (et_op rop_add (et_var rfl (Ef.et (ef_lst ?_))))))))
        nofun
        refine ⟨Nat.le_of_ble_eq_true rfl, ?_⟩
        nofun
        refine ⟨_, t6 w, rfl, rfl, ⟨Nat.le_of_ble_eq_true rfl, Nat.le_of_ble_eq_true rfl⟩, fun j t ht => ?_⟩
        exact app t (.v d) _ _ (t6_ok w hw5 t (List.mem_of_getElem? ht)) rfl
      · nofun
        exact app w (.v d) _ s6 (w5_ok w hw5) rfl
  · rintro e ⟨ts, s4, s5, s6, rfl, hl, hg⟩
    exact wd_ret (et_own rfl (p ts (by rw [hl, hln]) hg))
end
end Lw
namespace Lw
open PySem PySem.Spec PyProof.Rows L2 Evl Wv
set_option hygiene false in
local macro_rules
  | `(tactic| ac_rfl) => `(tactic| repeat' (first | (with_reducible show Et _ _ _ _; first | with_reducible refine et_popAt (by with_unfolding_all rfl) ?_ | with_reducible refine et_var (by with_unfolding_all rfl) ?_ | with_reducible refine et_int ?_ | with_reducible refine et_str ?_ | with_reducible refine et_bl ?_ | with_reducible refine et_non ?_ | with_reducible refine et_andV ?_ | with_reducible refine et_orV ?_ | with_reducible refine et_notV ?_ | with_reducible refine et_if ?_ | with_reducible refine et_isStr ?_ | with_reducible refine et_isInt ?_ | with_reducible refine et_isBool ?_ | with_reducible refine et_isDict ?_ | with_reducible refine et_isList ?_ | with_reducible refine et_isTuple ?_ | with_reducible refine et_isLT ?_ | with_reducible refine et_tup ?_ | with_reducible refine et_neg ?_ | with_reducible refine et_ixO (by with_unfolding_all rfl) ?_ | with_reducible refine et_opL (by first | exact rop_ix | exact rop_eq | exact rop_ne | exact rop_in | exact rop_ni | exact rop_add | exact rop_sub | exact rop_mul | exact rop_lt | exact rop_le | exact rop_gt | exact rop_ge | exact rop_mod | exact rop_div | exact rop_isN | exact rop_notN) (by with_unfolding_all rfl) ?_ | with_reducible refine et_opRo (by first | exact rop_ix | exact rop_eq | exact rop_ne | exact rop_in | exact rop_ni | exact rop_add | exact rop_sub | exact rop_mul | exact rop_lt | exact rop_le | exact rop_gt | exact rop_ge | exact rop_mod | exact rop_div | exact rop_isN | exact rop_notN) (by with_unfolding_all rfl) ?_ | with_reducible refine et_op (by first | exact rop_ix | exact rop_eq | exact rop_ne | exact rop_in | exact rop_ni | exact rop_add | exact rop_sub | exact rop_mul | exact rop_lt | exact rop_le | exact rop_gt | exact rop_ge | exact rop_mod | exact rop_div | exact rop_isN | exact rop_notN) ?_ | with_reducible refine et_cbO (by first | exact rcl_len | exact rcl_int | exact rcl_sum | exact rcl_max | exact rcl_min | exact rcl_all | exact rcl_any) (by with_unfolding_all rfl) ?_ | with_reducible refine et_cb (by first | exact rcl_len | exact rcl_int | exact rcl_sum | exact rcl_max | exact rcl_min | exact rcl_all | exact rcl_any) ?_ | with_reducible refine et_chain (by first | exact rop_ix | exact rop_eq | exact rop_ne | exact rop_in | exact rop_ni | exact rop_add | exact rop_sub | exact rop_mul | exact rop_lt | exact rop_le | exact rop_gt | exact rop_ge | exact rop_mod | exact rop_div | exact rop_isN | exact rop_notN) (by first | exact rop_ix | exact rop_eq | exact rop_ne | exact rop_in | exact rop_ni | exact rop_add | exact rop_sub | exact rop_mul | exact rop_lt | exact rop_le | exact rop_gt | exact rop_ge | exact rop_mod | exact rop_div | exact rop_isN | exact rop_notN) ?_ | with_reducible refine et_dget2O (by with_unfolding_all rfl) ?_ | with_reducible refine et_dget2 ?_ | with_reducible refine et_call0 nolk ?_ | with_reducible refine et_call0 samelk ?_ | with_reducible refine et_sl ?_) | (with_reducible show Wd _ _ _ _; first | with_reducible refine wd_seq ?_ | with_reducible refine wd_if ?_ | with_reducible refine wd_ret ?_ | with_reducible refine wd_next ?_ | with_reducible refine wd_raise ?_ | with_reducible refine wd_dput ?_ | with_reducible refine wd_app (by with_unfolding_all rfl) ?_ | with_reducible refine wd_retN ?_) | (with_reducible show Ea _ _ _ _; first | with_reducible refine ea_nil ?_ | with_reducible refine ea_cons ?_) | (with_reducible show Eb _ _ _ _; first | with_reducible refine eb_or ?_ | with_reducible refine eb_and ?_ | with_reducible refine eb_not ?_ | with_reducible refine eb_B ?_ | with_reducible refine eb_test ?_ | with_reducible refine eb_yes ?_) | (with_reducible show Eo _ _ _ _; first | with_reducible refine eo_none ?_ | with_reducible refine eo_some ?_) | with_reducible refine isTyI (by first | with_unfolding_all rfl | assumption | exact pur_ok (by assumption)) ?_ | with_reducible refine iteT ?_ | with_reducible refine iteF ?_ | with_reducible refine bt (by first | with_unfolding_all rfl | assumption) ?_ | with_reducible refine bf (by first | with_unfolding_all rfl | assumption) ?_ | with_reducible refine nt (by first | with_unfolding_all rfl | assumption) ?_ | with_reducible refine nf (by first | with_unfolding_all rfl | assumption) ?_ | with_reducible refine fin_s ?_ | with_reducible refine fni_s ?_ | with_reducible refine fx0 (by first | with_unfolding_all rfl | assumption) ?_ | with_reducible refine fx1 (by first | with_unfolding_all rfl | assumption) ?_ | with_reducible refine fx2 (by first | with_unfolding_all rfl | assumption) ?_ | with_reducible refine fxlen (by first | with_unfolding_all rfl | assumption) ?_ | with_reducible refine fxit (by first | with_unfolding_all rfl | assumption) ?_ | with_reducible refine feq_i ?_ | with_reducible refine feq_s ?_ | with_reducible refine fne_i ?_ | with_reducible refine fne_s ?_ | with_reducible refine r1_i (by first | with_unfolding_all rfl | assumption | exact pur_ok (by assumption)) ?_ | with_reducible refine sclI (by with_unfolding_all rfl) ?_ | with_reducible refine lenI (by with_unfolding_all rfl) ?_ | with_reducible refine eI ?_ | with_reducible refine addI ?_ | with_reducible refine jI ?_ | with_reducible refine lenLst ?_ | with_reducible refine lenTup ?_ | with_reducible refine lenDct ?_ | with_reducible refine lenStr ?_ | with_reducible refine slL ?_ | with_reducible refine slT ?_ | with_reducible refine slS ?_ | with_reducible refine intI ?_ | with_reducible refine intB ?_ | with_reducible refine itsL ?_ | with_reducible refine itsT ?_ | with_reducible refine itdL ?_ | with_reducible refine itdT ?_ | with_reducible refine kdI ?_ | with_reducible refine kdS ?_ | with_reducible refine exOwn (by with_unfolding_all rfl) ?_ | with_reducible refine exOwnD (by with_unfolding_all rfl) ?_ | with_reducible refine exOwnL (by with_unfolding_all rfl) ?_))
set_option hygiene false in
local macro_rules
  | `(tactic| nofun) => `(tactic| repeat' (first | (with_reducible show Et _ _ _ _; first | with_reducible refine et_popAt (by with_unfolding_all rfl) ?_ | with_reducible refine et_var (by with_unfolding_all rfl) ?_ | with_reducible refine et_int ?_ | with_reducible refine et_str ?_ | with_reducible refine et_bl ?_ | with_reducible refine et_non ?_ | with_reducible refine et_andV ?_ | with_reducible refine et_orV ?_ | with_reducible refine et_notV ?_ | with_reducible refine et_if ?_ | with_reducible refine et_isStr ?_ | with_reducible refine et_isInt ?_ | with_reducible refine et_isBool ?_ | with_reducible refine et_isDict ?_ | with_reducible refine et_isList ?_ | with_reducible refine et_isTuple ?_ | with_reducible refine et_isLT ?_ | with_reducible refine et_tup ?_ | with_reducible refine et_neg ?_ | with_reducible refine et_ixO (by with_unfolding_all rfl) ?_ | with_reducible refine et_opL (by first | exact rop_ix | exact rop_eq | exact rop_ne | exact rop_in | exact rop_ni | exact rop_add | exact rop_sub | exact rop_mul | exact rop_lt | exact rop_le | exact rop_gt | exact rop_ge | exact rop_mod | exact rop_div | exact rop_isN | exact rop_notN) (by with_unfolding_all rfl) ?_ | with_reducible refine et_opRo (by first | exact rop_ix | exact rop_eq | exact rop_ne | exact rop_in | exact rop_ni | exact rop_add | exact rop_sub | exact rop_mul | exact rop_lt | exact rop_le | exact rop_gt | exact rop_ge | exact rop_mod | exact rop_div | exact rop_isN | exact rop_notN) (by with_unfolding_all rfl) ?_ | with_reducible refine et_op (by first | exact rop_ix | exact rop_eq | exact rop_ne | exact rop_in | exact rop_ni | exact rop_add | exact rop_sub | exact rop_mul | exact rop_lt | exact rop_le | exact rop_gt | exact rop_ge | exact rop_mod | exact rop_div | exact rop_isN | exact rop_notN) ?_ | with_reducible refine et_cbO (by first | exact rcl_len | exact rcl_int | exact rcl_sum | exact rcl_max | exact rcl_min | exact rcl_all | exact rcl_any) (by with_unfolding_all rfl) ?_ | with_reducible refine et_cb (by first | exact rcl_len | exact rcl_int | exact rcl_sum | exact rcl_max | exact rcl_min | exact rcl_all | exact rcl_any) ?_ | with_reducible refine et_chain (by first | exact rop_ix | exact rop_eq | exact rop_ne | exact rop_in | exact rop_ni | exact rop_add | exact rop_sub | exact rop_mul | exact rop_lt | exact rop_le | exact rop_gt | exact rop_ge | exact rop_mod | exact rop_div | exact rop_isN | exact rop_notN) (by first | exact rop_ix | exact rop_eq | exact rop_ne | exact rop_in | exact rop_ni | exact rop_add | exact rop_sub | exact rop_mul | exact rop_lt | exact rop_le | exact rop_gt | exact rop_ge | exact rop_mod | exact rop_div | exact rop_isN | exact rop_notN) ?_ | with_reducible refine et_dget2 ?_ | with_reducible refine et_call0 nolk ?_ | with_reducible refine et_call0 samelk ?_ | with_reducible refine et_sl ?_) | (with_reducible show Wd _ _ _ _; first | with_reducible refine wd_seq ?_ | with_reducible refine wd_if ?_ | with_reducible refine wd_ret ?_ | with_reducible refine wd_next ?_ | with_reducible refine wd_raise ?_) | (with_reducible show Ea _ _ _ _; first | with_reducible refine ea_nil ?_ | with_reducible refine ea_cons ?_) | (with_reducible show Eb _ _ _ _; first | with_reducible refine eb_or ?_ | with_reducible refine eb_and ?_ | with_reducible refine eb_not ?_ | with_reducible refine eb_B ?_ | with_reducible refine eb_test ?_) | (with_reducible show Eo _ _ _ _; first | with_reducible refine eo_none ?_ | with_reducible refine eo_some ?_) | with_reducible refine isTyI (by first | with_unfolding_all rfl | assumption | exact pur_ok (by assumption)) ?_ | with_reducible refine iteT ?_ | with_reducible refine iteF ?_ | with_reducible refine bt (by first | with_unfolding_all rfl | assumption) ?_ | with_reducible refine bf (by first | with_unfolding_all rfl | assumption) ?_ | with_reducible refine nt (by first | with_unfolding_all rfl | assumption) ?_ | with_reducible refine nf (by first | with_unfolding_all rfl | assumption) ?_ | with_reducible refine fin_s ?_ | with_reducible refine fni_s ?_ | with_reducible refine fx0 (by first | with_unfolding_all rfl | assumption) ?_ | with_reducible refine fx1 (by first | with_unfolding_all rfl | assumption) ?_ | with_reducible refine fx2 (by first | with_unfolding_all rfl | assumption) ?_ | with_reducible refine fxlen (by first | with_unfolding_all rfl | assumption) ?_ | with_reducible refine fxit (by first | with_unfolding_all rfl | assumption) ?_ | with_reducible refine feq_i ?_ | with_reducible refine feq_s ?_ | with_reducible refine fne_i ?_ | with_reducible refine fne_s ?_ | with_reducible refine r1_i (by first | with_unfolding_all rfl | assumption | exact pur_ok (by assumption)) ?_ | with_reducible refine sclI (by with_unfolding_all rfl) ?_ | with_reducible refine lenI (by with_unfolding_all rfl) ?_ | with_reducible refine eI ?_))
/-! ### drawn nets -/
/-- a wire of a drawn net, of the box at place i of the row: what holds nothing leads back -/
def wireAt (row : List Str) (i : Nat) (x : Wi) : Prop := (∀ t ∈ x.2, cg 7 t = true) ∧ x.2.length ≤ 8 ∧ ∃ j, row[j]? = some x.1 ∧ (x.2 = [] → j < i)
/-- the box at place i of the row -/
inductive DBox (row : List Str) (i : Nat) : (t : Dt) → Prop where
  | inp (z : Str) (h : z = "x" ∨ z = "y") : DBox row i (Dt.tup [.str "in", .str z])
  | op (f : Str) (ws : List Wi) (ha : (f, (ws.length : Int)) ∈ arT) (hw : ∀ x ∈ ws, wireAt row i x) : DBox row i (Dt.tup [.str "op", .str f, .lst (ws.map wD)])
/-- the parts of a drawn net -/
structure Drawn (ops : Nat) (bt ot : List (Key × Dt)) (row : List Str) : Prop where
  nd : row.Nodup
  nm : ∀ n ∈ row, n ∈ bxN
  len : 2 ≤ row.length ∧ row.length ≤ 2 + ops
  ks : bt.map (·.1) = row.map Sum.inr
  bx : ∀ (i : Nat) kv, bt[i]? = some kv → DBox row i kv.2
  os : ot.map (·.1) = [.inr "o"] ∨ ot.map (·.1) = [.inr "o", .inr "r"]
  ow : ∀ kv ∈ ot, ∃ x : Wi, kv.2 = wD x ∧ x.1 ∈ row ∧ (∀ t ∈ x.2, cg 7 t = true) ∧ x.2.length ≤ 8
theorem ctD_mid (ds : List Dt) (a b : Nat) (hb : b ≤ ds.length) (ha : a ≤ b) : ctD ds (some (a : Int)) (some (b : Int)) = (ds.drop a).take (b - a) := by
  unfold ctD
  rw [HT.sIx_nat, HT.sIx_nat, Nat.min_eq_left hb, Nat.min_eq_left (by omega)]
theorem ops_ar : ∀ x ∈ ([.str "f", .str "g", .str "h", .str "k", .str "f", .str "m", .str "w"] : List Dt), ∃ f n, x = Dt.str f ∧ (f, n) ∈ arT := by
  intro x hx
  simp only [List.mem_cons, List.not_mem_nil, or_false] at hx
  rcases hx with e | e | e | e | e | e | e
  · exact ⟨"f", 2, e, by decide⟩
  · exact ⟨"g", 1, e, by decide⟩
  · exact ⟨"h", 2, e, by decide⟩
  · exact ⟨"k", 1, e, by decide⟩
  · exact ⟨"f", 2, e, by decide⟩
  · exact ⟨"m", 3, e, by decide⟩
  · exact ⟨"w", 4, e, by decide⟩
theorem perm_wD {ys : List Dt} {l : List Wi} (h : ys.Perm (l.map wD)) : ∃ l' : List Wi, l'.Perm l ∧ ys = l'.map wD := by
  refine ⟨ys.filterMap unW, ?_, ?_⟩
  · have := h.filterMap unW
    rw [List.filterMap_map] at this
    have e : (unW ∘ wD) = some := rfl
    rw [e, List.filterMap_some] at this
    exact this
  · have all : ∀ y ∈ ys, ∃ z, y = wD z := fun y hy => by
      obtain ⟨z, _, e⟩ := List.mem_map.mp (h.mem_iff.mp hy)
      exact ⟨z, e.symm⟩
    clear h
    induction ys with
    | nil => rfl
    | cons y ys ih =>
      obtain ⟨z, rfl⟩ := all y (List.mem_cons_self ..)
      rw [List.filterMap_cons, show unW (wD z) = some z from rfl]
      simp only [List.map_cons]
      rw [← ih fun y hy => all y (List.mem_cons_of_mem _ hy)]
/-- the next name of a row is new -/
theorem row_new {row : List Str} {i : Nat} {n : Str} {bt : List (Key × Dt)} {v : Dt} (nd : row.Nodup) (hn : row[i]? = some n) (hk : bt.map (·.1) = (row.take i).map Sum.inr) : dpt bt (.inr n) v = bt ++ [(.inr n, v)] ∧ (dpt bt (.inr n) v).map (·.1) = (row.take (i + 1)).map Sum.inr := by
  have hne : (.inr n : Key) ∉ bt.map (·.1) := by
    rw [hk]
    intro z
    obtain ⟨m, hm, e⟩ := List.mem_map.mp z
    cases e
    obtain ⟨j, hj⟩ := List.mem_iff_getElem?.mp hm
    rw [List.getElem?_take] at hj
    split at hj
    · rename_i hlt
      have := (List.getElem?_inj (List.getElem?_eq_some_iff.mp hj).1 nd).mp (hj.trans hn.symm)
      omega
    · cases hj
  have e := dpt_new (v := v) hne
  refine ⟨e, ?_⟩
  rw [e, List.map_append, hk, List.take_add_one, hn, List.map_append]
  rfl
section
variable {P : Program} {w : World} {K : PySem.W.Frag} {mg : Str → Option Value} {base : Heap}
def RDrawn : Rd3 := fun ds P _ => ∃ (ops most : Nat) (pl : Bool), ds = [.st, .int ops, .int most, .bl pl] ∧ (1 ≤ ops ∧ ops ≤ 7 ∧ 1 ≤ most ∧ most ≤ 8) ∧ ∀ bt ot row, Drawn ops bt ot row → P (.tup [.dct bt, .dct ot])
theorem w_drawn (T : Txt P K mg) : FnOk P w K mg base CX0 8 T.a_drawn T.d_drawn ["_law_state", "_law_ops", "_law_most", "_law_is_plain"] (spW K true RDrawn) := by
  refine T.F_drawn.ok sc_drawn (fun vs H Q E h => w_len 4 h fun _ _ _ ⟨_, _, _, e, _⟩ => by rw [e]; rfl) (fun cdv A outer s H vs Q E hr h => ⟨_, PSs.nox (pss_cons (ps_par3 (i := 4) (j := 5) (l := 6) rfl sc_drawn.nd rfl rfl rfl (by decide) (by decide) (by decide) rfl rfl rfl (pa_cons (pe_call (w_names T) (hr.mono (by omega)) rfl T.g_names T.F_names.kp T.b_names .nil pass0 (pa_cons (pv 0) (pa_cons (pe_op (uAdd K) pe_int (pv 1)) pa_nil))) (pa_cons pe_dnewK (pa_cons pe_dnewK pa_nil))) rfl rfl) (pss_cons (ps_set (i := 7) sc_drawn.nd rfl (Or.inl rfl) (pe_op (uAdd K) pe_int (pe_call (w_take T) (hr.mono (by omega)) rfl T.g_take T.F_take.kp T.b_take .nil pass0 (pa_cons (pv 0) (pa_cons pe_int pa_nil))))) (pss_cons (ps_for PassesOwn.never rfl (pi_zipK (K := K) rfl T.n_zip (pa_cons (pe_slice (uSlA K) (pv 4) po_none (po_some (pv 7))) (pa_cons (pe_lst (pa_cons pe_str (pa_cons (pe_call (w_one T) (hr.mono (by omega)) rfl T.g_one T.F_one.kp T.b_one .nil pass0 (pa_cons (pv 0) (pa_cons (pe_lst (pa_cons pe_str (pa_cons pe_str (pa_cons pe_str pa_nil)))) pa_nil))) pa_nil))) pa_nil))) (pg_tupK (K := K) (n := 2) rfl (pgs_cons (pg_name (i := 8) sc_drawn.nd rfl (Or.inl rfl)) (pgs_cons (pg_name (i := 9) sc_drawn.nd rfl (Or.inl rfl)) pgs_nil))) (pss_one (ps_dput (hu_of hr) (pv 5) (pv 8) (pe_tup (pa_cons pe_str (pa_cons (pv 9) pa_nil))) rfl))) (pss_cons (ps_set (i := 10) sc_drawn.nd rfl (Or.inl rfl) (pe_op (uAdd K) (pe_slice (uSlA K) (pv 4) po_none (po_some (pv 7))) (pe_slice (uSlA K) (pv 4) (po_some pe_int) (po_some (pe_op (uAdd K) pe_int (pe_call (w_take T) (hr.mono (by omega)) rfl T.g_take T.F_take.kp T.b_take .nil pass0 (pa_cons (pv 0) (pa_cons (pv 1) pa_nil)))))))) (pss_cons (ps_for PassesOwn.never rfl (pi_range2 rfl T.n_range (pa_cons (pv 7) (pa_cons (pe_callB (u_lenA K) rfl T.n_len (by decide +kernel) (pa_cons (pv 10) pa_nil)) pa_nil))) (pg_name (i := 11) sc_drawn.nd rfl (Or.inl rfl)) (pss_cons (ps_set (i := 12) sc_drawn.nd rfl (Or.inl rfl) (pe_op (uAdd K) (pe_lst (pa_cons pe_str (pa_cons pe_str (pa_cons pe_str (pa_cons pe_str (pa_cons pe_str pa_nil)))))) (pe_op uMul (pe_lst (pa_cons pe_str (pa_cons pe_str pa_nil))) (pe_callTy uC_int rfl T.n_int (by decide +kernel) (pa_cons (pe_cmpR (uEq K (hu64 hr)) (pv 11) (pv 7) (nomark _)) pa_nil))))) (pss_cons (ps_par (i := 13) (j := 14) rfl sc_drawn.nd rfl rfl (by decide) rfl rfl (pa_cons (pe_call (w_one T) (hr.mono (by omega)) rfl T.g_one T.F_one.kp T.b_one .nil pass0 (pa_cons (pv 0) (pa_cons (pv 12) pa_nil))) (pa_cons (pe_lst pa_nil) pa_nil)) rfl rfl) (pss_cons (ps_for PassesOwn.never rfl (pi_range1 rfl T.n_range (pa_cons (pe_call (w_arity T) (hr.mono (by omega)) rfl T.g_arity T.F_arity.kp T.b_arity .nil pass0 (pa_cons (pv 13) pa_nil)) pa_nil)) (pg_name (i := 15) sc_drawn.nd rfl (Or.inl rfl)) (pss_cons (ps_set (i := 16) sc_drawn.nd rfl (Or.inl rfl) (pe_ifExp (PW.pt (pw_or (pt_cmpR (uEq K (hu64 hr)) (pv 15) pe_int (nomark _)) (pw_or1 (pt_cmpR op_gt (pe_call (w_take T) (hr.mono (by omega)) rfl T.g_take T.F_take.kp T.b_take .nil pass0 (pa_cons (pv 0) (pa_cons pe_int pa_nil))) pe_int (nomark _))))) (pe_call (w_take T) (hr.mono (by omega)) rfl T.g_take T.F_take.kp T.b_take .nil pass0 (pa_cons (pv 0) (pa_cons (pv 11) pa_nil))) (pe_call (w_take T) (hr.mono (by omega)) rfl T.g_take T.F_take.kp T.b_take .nil pass0 (pa_cons (pv 0) (pa_cons (pe_callB (u_lenA K) rfl T.n_len (by decide +kernel) (pa_cons (pv 10) pa_nil)) pa_nil))))) (pss_cons (ps_set (i := 17) sc_drawn.nd rfl (Or.inl rfl) (pe_op (uAdd K) (pe_call (w_one T) (hr.mono (by omega)) rfl T.g_one T.F_one.kp T.b_one .nil pass0 (pa_cons (pv 0) (pa_cons (pe_lst (pa_cons pe_int (pa_cons pe_int (pa_cons pe_int (pa_cons pe_int pa_nil))))) pa_nil))) (pe_callTy uC_int rfl T.n_int (by decide +kernel) (pa_cons (pe_cmpR op_ge (pv 16) (pv 11) (nomark _)) pa_nil)))) (pss_one (ps_expr (pe_bm PySem.F.plainAttrs_list PySem.F.slot_list_append PySem.F.type_list_append mt_append (pv 14) (pa_cons (pe_tup (pa_cons (pe_ix (uIxA K (hu64 hr)) (pv 10) (pv 16) (fun _ _ => rfl)) (pa_cons (pe_call (w_starts T) (hr.mono (by omega)) rfl T.g_starts T.F_starts.kp T.b_starts .nil pass0 (pa_cons (pv 0) (pa_cons (pe_callB (u_minA K rfl) rfl T.n_min (by decide +kernel) (pa_cons (pe_lst (pa_cons (pv 17) (pa_cons (pv 2) pa_nil))) pa_nil)) (pa_cons (pv 3) pa_nil)))) pa_nil))) pa_nil))))))) (pss_one (ps_dput (hu_of hr) (pv 5) (pe_ix (uIxA K (hu64 hr)) (pv 10) (pv 11) (fun _ _ => rfl)) (pe_tup (pa_cons pe_str (pa_cons (pv 13) (pa_cons (pe_call (w_mix T) (hr.mono (by omega)) rfl T.g_mix T.F_mix.kp T.b_mix .nil pass0 (pa_cons (pv 0) (pa_cons (pv 14) pa_nil))) pa_nil)))) rfl)))))) (pss_cons (ps_for PassesOwn.never rfl (pi_anyK (K := K) (pe_slice (uSlA K) (pe_lst (pa_cons pe_str (pa_cons pe_str pa_nil))) po_none (po_some (pe_op (uAdd K) pe_int (pe_call (w_take T) (hr.mono (by omega)) rfl T.g_take T.F_take.kp T.b_take .nil pass0 (pa_cons (pv 0) (pa_cons pe_int pa_nil))))))) (pg_name (i := 8) sc_drawn.nd rfl (Or.inl rfl)) (pss_cons (ps_set (i := 17) sc_drawn.nd rfl (Or.inl rfl) (pe_call (w_one T) (hr.mono (by omega)) rfl T.g_one T.F_one.kp T.b_one .nil pass0 (pa_cons (pv 0) (pa_cons (pe_lst (pa_cons pe_int (pa_cons pe_int (pa_cons pe_int (pa_cons pe_int (pa_cons pe_int pa_nil)))))) pa_nil)))) (pss_cons (ps_set (i := 16) sc_drawn.nd rfl (Or.inl rfl) (pe_op op_sub (pe_op op_sub (pe_callB (u_lenA K) rfl T.n_len (by decide +kernel) (pa_cons (pv 10) pa_nil)) pe_int) (pe_call (w_take T) (hr.mono (by omega)) rfl T.g_take T.F_take.kp T.b_take .nil pass0 (pa_cons (pv 0) (pa_cons pe_int pa_nil))))) (pss_one (ps_dput (hu_of hr) (pv 6) (pv 8) (pe_tup (pa_cons (pe_ix (uIxA K (hu64 hr)) (pv 10) (pv 16) (fun _ _ => rfl)) (pa_cons (pe_call (w_starts T) (hr.mono (by omega)) rfl T.g_starts T.F_starts.kp T.b_starts .nil pass0 (pa_cons (pv 0) (pa_cons (pv 17) (pa_cons (pv 3) pa_nil)))) pa_nil))) rfl))))) (pss_one (ps_ret (pe_tup (pa_cons (pv 5) (pa_cons (pv 6) pa_nil))))))))))), w_start h 18 rfl fun ds P xe ⟨ops, most, pl, e, ⟨ho1, ho2, hm1, hm2⟩, p⟩ => ?_⟩)
  subst e
  refine ⟨Nat.le_of_ble_eq_true rfl, ?_⟩
  refine wd_seq (wd_par3 (by decide) (by decide) (et_call0 nolk (ea_cons (et_var rfl (ea_cons (et_op rop_add (et_int (et_var rfl (ea_nil ⟨2 + ops, by congr 2, by omega, fun ns hnd hlen hin => ef_dnew (ef_dnew ?_)⟩)))))))))
  refine wd_seq (wd_asg (et_op rop_add (et_int (et_call0 nolk (ea_cons (et_var rfl (ea_cons (et_int (ea_nil ⟨2, rfl, by decide, fun d hd0 hd1 => ?_⟩)))))))))
  obtain ⟨dn, rfl⟩ := Int.eq_ofNat_of_zero_le hd0
  have hdn : dn ≤ 1 := by omega
  show Wd _ _ _ _
  refine wd_seq (wd_for (ei_zip (ea_cons (et_sl (et_var rfl (eo_none (eo_some (et_var rfl ⟨_, rfl, ?_⟩))))))))
  have ec : (1 : Int) + (dn : Int) = ((1 + dn : Nat) : Int) := by omega
  show Ea _ _ _ _
  rw [ec, ctD_to, ← List.map_take]
  refine ea_cons (Ef.et (ef_lst (ea_cons (et_str (ea_cons (et_call0 nolk (ea_cons (et_var rfl (ea_cons (Ef.et (ef_lst ?_)))))))))))
  nofun
  refine ⟨_, [.str "x", .str "y", .str "y"], rfl, rfl, ⟨by decide, by decide⟩, fun j z0 hz0 => ?_⟩
  obtain ⟨z1, rfl, hz1⟩ : ∃ z1, z0 = .str z1 ∧ (z1 = "x" ∨ z1 = "y") := by
    have := List.mem_of_getElem? hz0
    rcases List.mem_cons.mp this with e | this
    · exact ⟨_, e, .inl rfl⟩
    rcases List.mem_cons.mp this with e | this
    · exact ⟨_, e, .inr rfl⟩
    · exact ⟨_, List.mem_singleton.mp this, .inr rfl⟩
  nofun
  have hzz : z1 = "x" ∨ z1 = "y" := hz1
  refine ⟨_, _, rfl, fun i e => ∃ (bt : List (Key × Dt)) (s8 s9 : Sl), e = [.v .st, .v (.int ops), .v (.int most), .v (.bl pl), .v (.lst (ns.map .str)), .own (.dct bt), .own (.dct []), .v (.int ((1 + dn : Nat) : Int)), s8, s9, .no, .no, .no, .no, .no, .no, .no, .no] ∧ bt.map (·.1) = (ns.take i).map Sum.inr ∧
    (∀ kv ∈ bt, ∃ z, kv.2 = .tup [.str "in", .str z] ∧ (z = "x" ∨ z = "y")), ⟨[], .no, .no, rfl, rfl, fun kv h => by cases h⟩, ?_, ?_⟩
  · rintro i d e hi ⟨bt, s8, s9, rfl, hk, hz⟩
    obtain ⟨n, z, rfl, hn, hzx⟩ : ∃ n z, d = .tup [.str n, .str z] ∧ ns[i]? = some n ∧ (z = "x" ∨ z = "y") := by
      unfold zipD at hi
      rw [List.getElem?_zipWith] at hi
      cases e1 : (List.map Dt.str (List.take (1 + dn) ns))[i]? with
      | none => rw [e1] at hi; cases hi
      | some a =>
        cases e2 : [Dt.str "x", Dt.str z1][i]? with
        | none => rw [e1, e2] at hi; cases hi
        | some b =>
          rw [e1, e2] at hi
          cases hi
          rw [List.getElem?_map] at e1
          cases e3 : (ns.take (1 + dn))[i]? with
          | none => rw [e3] at e1; cases e1
          | some n =>
            rw [e3] at e1
            cases e1
            have en : ns[i]? = some n := by
              rw [List.getElem?_take] at e3
              split at e3
              · exact e3
              · cases e3
            match i, e2, en with
            | 0, e2, en => cases e2; exact ⟨n, _, rfl, en, .inl rfl⟩
            | 1, e2, en => cases e2; exact ⟨n, _, rfl, en, hzz⟩
            | i + 2, e2, _ => simp at e2
    have hbl : bt.length ≤ 9 := by
      have := congrArg List.length hk
      rw [List.length_map, List.length_map, List.length_take] at this
      omega
    obtain ⟨en, ek⟩ := row_new (v := .tup [.str "in", .str z]) hnd hn hk
    refine (tv_tup (tgs_cons (tv_name (tgs_cons (tv_name (tgs_nil ?_)))))).tg
    refine wd_dput ?_
    nofun
    refine ⟨_, rfl, ?_⟩
    nofun
    refine ⟨_, rfl, ?_, _, _, _, rfl, ?_, ?_⟩
    · simp only [Zz]
      omega
    · exact ek
    · intro kv hkv
      rw [show dpt bt (Sum.inr n) (.tup [.str "in", .str z]) = _ from en] at hkv
      rcases List.mem_append.mp hkv with hkv | hkv
      · exact hz kv hkv
      · rw [List.mem_singleton.mp hkv]
        exact ⟨z, rfl, hzx⟩
  · rintro e ⟨bt, s8, s9, rfl, hk, hz⟩
    have hzl : (zipD ((ns.take (1 + dn)).map Dt.str) [.str "x", .str z1]).length = 1 + dn := by
      unfold zipD
      rw [List.length_zipWith, List.length_map, List.length_take]
      simp only [List.length_cons, List.length_nil]
      omega
    rw [hzl] at hk
    refine wd_seq (wd_asg (et_op rop_add (et_sl (et_var rfl (eo_none (eo_some (et_var rfl ⟨_, rfl, ?_⟩)))))))
    show Et _ _ _ _
    rw [ctD_to, ← List.map_take]
    nofun
    refine ⟨(ops : Int), rfl, ⟨by omega, by omega⟩, fun d2 hd20 hd21 => ?_⟩
    obtain ⟨d2, rfl⟩ := Int.eq_ofNat_of_zero_le hd20
    have hd2 : d2 < ops := by omega
    refine eI (slL ?_)
    have hsl : ctD (ns.map Dt.str) (some 2) (some ((3 : Int) + (d2 : Int))) = ((ns.drop 2).take (1 + d2)).map Dt.str := by
      rw [show (3 : Int) + (d2 : Int) = ((3 + d2 : Nat) : Int) by omega, show (2 : Int) = ((2 : Nat) : Int) from rfl, ctD_mid _ 2 (3 + d2) (by rw [List.length_map]; omega) (by omega), List.map_take, List.map_drop]
      congr 1
      omega
    rw [hsl]
    obtain ⟨row, hrow⟩ : ∃ row, row = ns.take (1 + dn) ++ (ns.drop 2).take (1 + d2) := ⟨_, rfl⟩
    have hrl : row.length = 2 + dn + d2 := by
      rw [hrow, List.length_append, List.length_take, List.length_take, List.length_drop]
      omega
    have hrt : row.take (1 + dn) = ns.take (1 + dn) := by
      rw [hrow, List.take_append_of_le_length (by rw [List.length_take]; omega), List.take_take, Nat.min_self]
    have hrs : row.Sublist ns := by
      rw [hrow]
      have e2 : ns = ns.take 2 ++ ns.drop 2 := (List.take_append_drop 2 ns).symm
      conv => rhs; rw [e2]
      refine List.Sublist.append ?_ (List.take_sublist ..)
      have : ns.take (1 + dn) = (ns.take 2).take (1 + dn) := by rw [List.take_take, Nat.min_eq_left (by omega)]
      rw [this]
      exact List.take_sublist ..
    have hrn : row.Nodup := hnd.sublist hrs
    have hri : ∀ n ∈ row, n ∈ bxN := fun n hn => hin n (hrs.subset hn)
    refine ⟨by simp only [List.length_map, List.length_take, List.length_drop, Zz]; omega, ?_⟩
    rw [← List.map_append, ← hrow]
    have hrI : ∀ {j : Nat}, j < row.length → ∃ n, row[j]? = some n := fun {j} h => ⟨row[j], by simp [h]⟩
    show Wd _ _ _ _
    refine wd_seq (wd_for (ei_rng2 ?_))
    ac_rfl
    refine ⟨_, _, rfl, ?_, ?_⟩
    · rw [List.length_map]; simp only [Zz]; omega
    have hrg : (rngD ((1 + dn : Nat) : Int) ((((row.map Dt.str).length : Nat) : Int) - ((1 + dn : Nat) : Int)).toNat).length = 1 + d2 := by
      rw [rngD_len, List.length_map]; omega
    refine ⟨fun i e => ∃ (bt : List (Key × Dt)) (s8 s9 s11 s12 s13 s14 s15 s16 s17 : Sl), e = [.v .st, .v (.int ops), .v (.int most), .v (.bl pl), .v (.lst (ns.map .str)), .own (.dct bt), .own (.dct []), .v (.int ((1 + dn : Nat) : Int)), s8, s9, .v (.lst (row.map .str)), s11, s12, s13, s14, s15, s16, s17] ∧
      bt.map (·.1) = (row.take (1 + dn + i)).map Sum.inr ∧ ∀ (j : Nat) kv, bt[j]? = some kv → DBox row j kv.2, ?_, ?_, ?_⟩
    · refine ⟨bt, s8, s9, .no, .no, .no, .no, .no, .no, .no, rfl, by rw [Nat.add_zero, hrt]; exact hk, fun j kv hj => ?_⟩
      obtain ⟨z, e, hz'⟩ := hz kv (List.mem_of_getElem? hj)
      rw [e]
      exact .inp z hz'
    · rintro i d e hi ⟨bt, s8, s9, s11, s12, s13, s14, s15, s16, s17, rfl, hk, hb⟩
      obtain ⟨rfl, hlt⟩ := rngD_get hi
      have hi2 : i < 1 + d2 := by rw [List.length_map] at hlt; omega
      obtain ⟨at_, hat⟩ : ∃ at_ : Nat, at_ = 1 + dn + i := ⟨_, rfl⟩
      have eat : ((1 + dn : Nat) : Int) + (i : Int) = (at_ : Int) := by omega
      have hatl : at_ < row.length := by omega
      rw [eat]
      refine tg_name (wd_seq (wd_asg (et_op rop_add (Ef.et (ef_lst ?_)))))
      ac_rfl
      refine Ef.et (ef_lst ?_)
      ac_rfl
      generalize decide ((at_ : Int) = ((1 + dn : Nat) : Int)) = bb
      refine ⟨by cases bb <;> decide, by cases bb <;> decide, by cases bb <;> decide, ?_, ?_⟩
      · cases bb <;> exact Nat.le_of_ble_eq_true rfl
      obtain ⟨ol, hol⟩ : ∃ ol, ol = [Dt.str "f", .str "g", .str "h", .str "k", .str "f"] ++ (List.replicate (if bb = true then (1 : Int) else 0).toNat [Dt.str "m", .str "w"]).flatten := ⟨_, rfl⟩
      have hol1 : 0 < ol.length ∧ ol.length ≤ 20000 := by rw [hol]; cases bb <;> decide
      have hol2 : ∀ x ∈ ol, ∃ f n, x = .str f ∧ (f, n) ∈ arT := by
        intro x hx
        refine ops_ar x ?_
        rw [hol] at hx
        cases bb with
        | true => exact hx
        | false =>
          have hx : x ∈ ([.str "f", .str "g", .str "h", .str "k", .str "f"] : List Dt) := by simpa using hx
          exact List.mem_append_left [.str "m", .str "w"] hx
      show Wd _ _ _ _
      rw [← hol]
      refine wd_seq (wd_parVO (et_call0 nolk (ea_cons (et_var rfl (ea_cons (et_var rfl (ea_nil ⟨_, ol, rfl, rfl, hol1, fun j0 x0 hx0 => ?_⟩)))))))
      obtain ⟨f, n, rfl, hfa⟩ := hol2 x0 (List.mem_of_getElem? hx0)
      refine ef_lst (ea_nil ⟨Nat.zero_le _, ?_⟩)
      refine wd_seq (wd_for (ei_rng1 ?_))
      ac_rfl
      refine ⟨f, n, rfl, hfa, ?_⟩
      have hn : 1 ≤ n ∧ n ≤ 4 := by
        have := List.all_eq_true.mp (show (arT.all fun p => decide (1 ≤ p.2 ∧ p.2 ≤ 4)) = true by decide) _ hfa
        exact of_decide_eq_true this
      refine ea_nil ⟨n, rfl, by simp only [Zz]; omega, by omega, ?_⟩
      refine ⟨fun k e => ∃ (ws : List Wi) (s12 s15 s16 s17 : Sl), e = [.v .st, .v (.int ops), .v (.int most), .v (.bl pl), .v (.lst (ns.map .str)), .own (.dct bt), .own (.dct []), .v (.int ((1 + dn : Nat) : Int)), s8, s9, .v (.lst (row.map .str)), .v (.int (at_ : Int)), s12, .v (.str f), .own (.lst (ws.map wD)), s15, s16, s17] ∧
        ws.length = k ∧ ∀ x ∈ ws, wireAt row at_ x, ?_, ?_, ?_⟩
      · exact ⟨[], _, _, _, _, rfl, rfl, fun x hx => by cases hx⟩
      · rintro k d e hk2 ⟨ws, s12, s15, s16, s17, rfl, hwl, hww⟩
        obtain ⟨rfl, hkn⟩ := rngD_get hk2
        refine tg_name ?_
        have hto : ∀ {m : Int} {Pk : Dt → Prop}, 0 < m → m ≤ row.length → (∀ to_ : Nat, to_ < row.length → Pk (.int (to_ : Int))) → RTake [.st, .int m] Pk fun _ _ => False := fun {m Pk} h1 h2 h3 => by
          refine ⟨m, rfl, ⟨h1, by omega⟩, fun d h4 h5 => ?_⟩
          obtain ⟨to_, rfl⟩ := Int.eq_ofNat_of_zero_le h4
          exact h3 to_ (by omega)
        refine wd_cut (Mid := fun e => ∃ to_ : Nat, to_ < row.length ∧ e = [.v .st, .v (.int ops), .v (.int most), .v (.bl pl), .v (.lst (ns.map .str)), .own (.dct bt), .own (.dct []), .v (.int ((1 + dn : Nat) : Int)), s8, s9, .v (.lst (row.map .str)), .v (.int (at_ : Int)), s12, .v (.str f), .own (.lst (ws.map wD)), .v (.int (0 + (k : Int))), .v (.int (to_ : Int)), s17]) (wd_asg ?_) ?_
        · ac_rfl
          refine Wv.b2 (fun h0 => ?_) fun h0 => ?_
          · ac_rfl
            exact hto (by omega) (by omega) fun to_ h => ⟨to_, h, rfl⟩
          · ac_rfl
            refine ⟨3, rfl, by decide, fun k3 _ _ => ?_⟩
            ac_rfl
            refine Wv.b2 (fun h1 => ?_) fun h1 => ?_
            · ac_rfl
              exact hto (by omega) (by omega) fun to_ h => ⟨to_, h, rfl⟩
            · ac_rfl
              rw [List.length_map]
              exact hto (by omega) (by omega) fun to_ h => ⟨to_, h, rfl⟩
        · rintro e ⟨to_, hto2, rfl⟩
          refine wd_seq (wd_asg ?_)
          ac_rfl
          refine Ef.et (ef_lst ?_)
          ac_rfl
          refine ⟨_, [.int 0, .int 0, .int 1, .int 2], rfl, rfl, ⟨by decide, by decide⟩, fun jh xh hxh => ?_⟩
          obtain ⟨hh, rfl, hh0, hh2⟩ : ∃ hh : Nat, xh = .int (hh : Int) ∧ 0 ≤ hh ∧ hh ≤ 2 := by
            have := List.mem_of_getElem? hxh
            simp only [List.mem_cons, List.not_mem_nil, or_false] at this
            rcases this with e | e | e | e <;> subst e
            · exact ⟨0, rfl, by omega, by omega⟩
            · exact ⟨0, rfl, by omega, by omega⟩
            · exact ⟨1, rfl, by omega, by omega⟩
            · exact ⟨2, rfl, by omega, by omega⟩
          ac_rfl
          obtain ⟨held, hheld⟩ : ∃ held : Nat, (held : Int) = (hh : Int) + (if decide ((at_ : Int) ≤ (to_ : Int)) = true then 1 else 0) := by
            split
            · exact ⟨hh + 1, by omega⟩
            · exact ⟨hh, by omega⟩
          have hhl : held ≤ 3 ∧ (held = 0 → to_ < at_) := by
            split at hheld
            · omega
            · rename_i hn2
              have : ¬ (at_ : Int) ≤ (to_ : Int) := fun z => hn2 (decide_eq_true z)
              omega
          rw [← hheld]
          obtain ⟨nm, hnm⟩ := hrI hto2
          refine wd_app rfl (et_tup (ea_cons (et_op rop_ix ?_)))
          ac_rfl
          refine fxN (i := to_) rfl (by rw [List.getElem?_map, hnm]; rfl) ?_
          ac_rfl
          refine Ef.et (ef_lst ?_)
          ac_rfl
          refine ⟨[(held : Int), (most : Int)], rfl, Nat.zero_lt_succ _, fun m hm hml => ?_⟩
          obtain ⟨mn, rfl, hmn⟩ : ∃ mn : Nat, m = (mn : Int) ∧ mn ≤ 3 ∧ (mn = 0 → held = 0) := by
            have h1 := hml _ (List.mem_cons_self ..)
            simp only [List.mem_cons, List.not_mem_nil, or_false] at hm
            rcases hm with e | e
            · exact ⟨held, e, by omega, id⟩
            · exact ⟨most, e, by omega, by omega⟩
          ac_rfl
          refine ⟨mn, pl, rfl, by omega, fun ts htl htg => ea_nil ⟨Nat.le_of_ble_eq_true rfl, _, rfl, by simp only [List.length_map, Zz]; omega, ws ++ [(nm, ts)], s12, .v (.int (0 + (k : Int))), .v (.int (to_ : Int)), .v (.int (held : Int)), ?_, by rw [List.length_append, hwl]; rfl, fun x hx => ?_⟩⟩
          · rw [List.map_append]
            rfl
          · rcases List.mem_append.mp hx with hx | hx
            · exact hww x hx
            · rw [List.mem_singleton.mp hx]
              exact ⟨htg, by show ts.length ≤ 8; omega, to_, hnm, fun z => hhl.2 (hmn.2 (by rw [← htl]; show ts.length = 0; have z : ts = [] := z; rw [z]; rfl))⟩
      · rintro e ⟨ws, s12, s15, s16, s17, rfl, hwl, hww⟩
        rw [rngD_len] at hwl
        obtain ⟨nm, hnm⟩ := hrI hatl
        have hbl : bt.length ≤ 9 := by
          have := congrArg List.length hk
          rw [List.length_map, List.length_map, List.length_take] at this
          omega
        have hwo : ∀ x ∈ ws, PyData.strOk x.1 = true := fun x hx => by
          obtain ⟨_, _, j, hj, _⟩ := hww x hx
          have := hri _ (List.mem_of_getElem? hj)
          exact List.all_eq_true.mp (show (bxN.all PyData.strOk) = true by decide +kernel) _ this
        refine wd_dput (et_tup (ea_cons (et_str (ea_cons (et_var rfl (ea_cons (et_call0 nolk (ea_cons (et_var rfl (ea_cons (et_own rfl (ea_nil ?_))))))))))))
        refine ⟨_, ws.map wD, rfl, rfl, ⟨by rw [List.length_map]; omega, dats_of fun y hy => ?_, ?_⟩, fun ys hys => ?_⟩
        · obtain ⟨x, hx, rfl⟩ := List.mem_map.mp hy
          exact wD_dat (hwo x hx) (hww x hx).1
        · have : deps (ws.map wD) ≤ 9 := deps_le fun y hy => by
            obtain ⟨x, hx, rfl⟩ := List.mem_map.mp hy
            exact wD_dep (hww x hx).1
          omega
        obtain ⟨ws2, hws2, rfl⟩ := perm_wD hys
        refine ea_nil ⟨Nat.le_of_ble_eq_true rfl, _, rfl, et_op rop_ix ?_⟩
        ac_rfl
        refine fxN (i := at_) rfl (by rw [List.getElem?_map, hnm]; rfl) ?_
        obtain ⟨en, ek⟩ := row_new (v := .tup [.str "op", .str f, .lst (ws2.map wD)]) hrn hnm (by rw [hat]; exact hk)
        refine ⟨bt, rfl, by simp only [Zz]; omega, _, _, _, _, _, _, _, _, _, _, rfl, by rw [ek, hat]; rfl, fun j kv hj => ?_⟩
        rw [en] at hj
        rw [List.getElem?_append] at hj
        split at hj
        · exact hb j kv hj
        · rename_i hge
          have hbl2 : bt.length = at_ := by
            have := congrArg List.length hk
            rw [List.length_map, List.length_map, List.length_take] at this
            omega
          have hj0 : j = at_ := by
            have := (List.getElem?_eq_some_iff.mp hj).1
            simp at this
            omega
          subst hj0
          rw [hbl2, Nat.sub_self] at hj
          cases hj
          refine .op f ws2 ?_ fun x hx => hww x (hws2.mem_iff.mp hx)
          have e1 : (ws2.length : Int) = n := by rw [hws2.length_eq]; omega
          rw [e1]
          exact hfa
    · rintro e ⟨bt, s8, s9, s11, s12, s13, s14, s15, s16, s17, rfl, hk, hb⟩
      rw [hrg, show 1 + dn + (1 + d2) = row.length by omega, List.take_length] at hk
      refine wd_seq (wd_for (ei_seq (et_sl (Ef.et (ef_lst ?_)))))
      ac_rfl
      refine ⟨2, rfl, by decide, fun no h0 h1 => ?_⟩
      obtain ⟨no, rfl⟩ := Int.eq_ofNat_of_zero_le h0
      ac_rfl
      have eno : (1 : Int) + (no : Int) = ((1 + no : Nat) : Int) := by omega
      rw [eno, ctD_to]
      refine ⟨fun i e => ∃ (ot : List (Key × Dt)) (s8 s9 s11 s12 s13 s14 s15 s16 s17 : Sl), e = [.v .st, .v (.int ops), .v (.int most), .v (.bl pl), .v (.lst (ns.map .str)), .own (.dct bt), .own (.dct ot), .v (.int ((1 + dn : Nat) : Int)), s8, s9, .v (.lst (row.map .str)), s11, s12, s13, s14, s15, s16, s17] ∧
        ot.map (·.1) = (([("o" : Str), "r"] : List Str).take i).map Sum.inr ∧ ∀ kv ∈ ot, ∃ x : Wi, kv.2 = wD x ∧ x.1 ∈ row ∧ (∀ t ∈ x.2, cg 7 t = true) ∧ x.2.length ≤ 8, ?_, ?_, ?_⟩
      · exact ⟨[], _, _, _, _, _, _, _, _, _, rfl, rfl, fun kv h => by cases h⟩
      · rintro i d e hi ⟨ot, s8, s9, s11, s12, s13, s14, s15, s16, s17, rfl, ho, hw⟩
        obtain ⟨n, rfl, hni⟩ : ∃ n, d = .str n ∧ ([("o" : Str), "r"] : List Str)[i]? = some n := by
          rw [List.getElem?_take] at hi
          split at hi
          · match i, hi with
            | 0, hi => cases hi; exact ⟨_, rfl, rfl⟩
            | 1, hi => cases hi; exact ⟨_, rfl, rfl⟩
            | i + 2, hi => simp at hi
          · cases hi
        have hol : ot.length ≤ 2 := by
          have := congrArg List.length ho
          rw [List.length_map, List.length_map, List.length_take] at this
          simp only [List.length_cons, List.length_nil] at this
          omega
        refine tg_name (wd_seq (wd_asg ?_))
        ac_rfl
        refine Ef.et (ef_lst ?_)
        ac_rfl
        refine ⟨_, [.int 0, .int 0, .int 0, .int 1, .int 2], rfl, rfl, ⟨by decide, by decide⟩, fun jh xh hxh => ?_⟩
        obtain ⟨hh, rfl, hh2⟩ : ∃ hh : Nat, xh = .int (hh : Int) ∧ hh ≤ 2 := by
          have := List.mem_of_getElem? hxh
          simp only [List.mem_cons, List.not_mem_nil, or_false] at this
          rcases this with e | e | e | e | e <;> subst e
          · exact ⟨0, rfl, by omega⟩
          · exact ⟨0, rfl, by omega⟩
          · exact ⟨0, rfl, by omega⟩
          · exact ⟨1, rfl, by omega⟩
          · exact ⟨2, rfl, by omega⟩
        refine wd_seq (wd_asg ?_)
        ac_rfl
        refine ⟨2, rfl, by decide, fun t2 h0 h1 => ?_⟩
        ac_rfl
        obtain ⟨to_, hto⟩ : ∃ to_ : Nat, (to_ : Int) = (((row.map Dt.str).length : Nat) : Int) - 1 - t2 := by
          rw [List.length_map]
          exact ⟨(row.length - 1 - t2).toNat, by omega⟩
        rw [← hto]
        rw [List.length_map] at hto
        obtain ⟨nm, hnm⟩ := hrI (j := to_) (by omega)
        refine fxN (i := to_) rfl (by rw [List.getElem?_map, hnm]; rfl) ?_
        ac_rfl
        refine ⟨hh, pl, rfl, by omega, fun ts htl htg => ea_nil ⟨Nat.le_of_ble_eq_true rfl, _, rfl, ?_⟩⟩
        ac_rfl
        obtain ⟨en, ek⟩ := row_new (v := wD (nm, ts)) (show ([("o" : Str), "r"] : List Str).Nodup by decide) hni ho
        refine ⟨by simp only [Zz]; omega, _, _, _, _, _, _, _, _, _, _, rfl, ek, fun kv hkv => ?_⟩
        rw [show dpt ot (.inr n) (.tup [.str nm, .lst ts]) = _ from en] at hkv
        rcases List.mem_append.mp hkv with hkv | hkv
        · exact hw kv hkv
        · rw [List.mem_singleton.mp hkv]
          exact ⟨(nm, ts), rfl, List.mem_of_getElem? hnm, htg, by show ts.length ≤ 8; omega⟩
      · rintro e ⟨ot, s8, s9, s11, s12, s13, s14, s15, s16, s17, rfl, ho, hw⟩
        refine wd_ret (et_tup (ea_cons (et_own rfl (ea_cons (et_own rfl (ea_nil ⟨Nat.le_of_ble_eq_true rfl, ?_⟩))))))
        refine p bt ot row ⟨hrn, hri, ⟨by omega, by omega⟩, hk, hb, ?_, hw⟩
        have e5 : (List.take (1 + no) [Dt.str "o", .str "r"]).length = 1 + no := by
          rw [List.length_take]
          simp only [List.length_cons, List.length_nil]
          omega
        rw [e5] at ho
        match no, h1 with
        | 0, _ => exact .inl ho
        | 1, _ => exact .inr ho
end
end Lw
namespace Lw
open PySem PySem.Spec PyProof.Rows L2 Evl Wv
/-! ### parts of nets that pass all checks, as they are kept -/
inductive GBox (ns : List Str) (ar : Str → Nat) : Dt → Prop where
  | inp (z : Str) (h : wordD (.str z) = true) : GBox ns ar (.tup [.str "in", .str z])
  | op (f : Str) (ws : List Wi) (hf : wordD (.str f) = true) (hl : 1 ≤ ws.length ∧ ws.length ≤ 4) (ha : ar f = ws.length) (hw : ∀ x ∈ ws, x.1 ∈ ns ∧ ∀ t ∈ x.2, cg 7 t = true) : GBox ns ar (.tup [.str "op", .str f, .lst (ws.map wD)])
structure GB (bt : List (Key × Dt)) (ns : List Str) (ar : Str → Nat) : Prop where
  ks : bt.map (·.1) = ns.map Sum.inr
  nd : ns.Nodup
  wd : ∀ n ∈ ns, wordD (.str n) = true
  bx : ∀ kv ∈ bt, GBox ns ar kv.2
  sz : ns.length < 5000
structure GO (ot : List (Key × Dt)) (ns os : List Str) : Prop where
  ks : ot.map (·.1) = os.map Sum.inr
  nd : os.Nodup
  wd : ∀ n ∈ os, wordD (.str n) = true
  sz : os.length ≤ 4
  ow : ∀ kv ∈ ot, ∃ x : Wi, kv.2 = wD x ∧ x.1 ∈ ns ∧ ∀ t ∈ x.2, cg 7 t = true
theorem inr_nd {ns : List Str} (h : ns.Nodup) : (ns.map (Sum.inr : Str → Key)).Nodup := by
  unfold List.Nodup at h ⊢
  rw [List.pairwise_map]
  exact h.imp fun h z => h (Sum.inr.inj z)
/-- the value at a place, found by its key -/
theorem dlk_nd : ∀ {kvs : List (Key × Dt)}, (kvs.map (·.1)).Nodup → ∀ {k : Key} {v : Dt}, (k, v) ∈ kvs → dlk kvs k = some v
  | [], _, _, _, h => by cases h
  | p :: r, nd, k, v, h => by
    rw [List.map_cons, List.nodup_cons] at nd
    rcases List.mem_cons.mp h with e | h
    · rw [dlk_pos (by rw [← e]), ← e]
    · rw [dlk_neg, dlk_nd nd.2 h]
      intro z
      exact nd.1 (by rw [z]; exact List.mem_map_of_mem (f := (·.1)) h)
theorem dlk_ks {kvs : List (Key × Dt)} {ns : List Str} (h : kvs.map (·.1) = ns.map Sum.inr) {n : Str} : (dlk kvs (.inr n)).isSome = decide (n ∈ ns) := by
  cases e : dlk kvs (.inr n) with
  | some t =>
    have := List.mem_map_of_mem (f := (·.1)) (dlk_mem e)
    rw [h] at this
    obtain ⟨m, hm, q⟩ := List.mem_map.mp this
    cases q
    exact (decide_eq_true hm).symm
  | none =>
    refine (decide_eq_false fun hn => ?_).symm
    have : (.inr n : Key) ∈ kvs.map (·.1) := by rw [h]; exact List.mem_map_of_mem hn
    obtain ⟨kv, hkv, q⟩ := List.mem_map.mp this
    obtain ⟨t, ht⟩ := dlk_some hkv
    rw [q, e] at ht
    cases ht
theorem ks_map {kvs : List (Key × Dt)} {ns : List Str} (h : kvs.map (·.1) = ns.map Sum.inr) : (kvs.map fun kv => kDt kv.1) = ns.map Dt.str := by
  have : (kvs.map fun kv => kDt kv.1) = (kvs.map (·.1)).map kDt := by rw [List.map_map]; rfl
  rw [this, h, List.map_map]
  rfl
theorem nmF_fold : ∀ (ns : List Str) (a : List (Key × Dt)) (n : Str), (dlk ((ns.map Dt.str).foldl (fun a k => dpt a (keyD k) (.bl true)) a) (.inr n)).isSome = (decide (n ∈ ns) || (dlk a (.inr n)).isSome)
  | [], a, n => by simp
  | m :: ns, a, n => by
    rw [List.map_cons, List.foldl_cons, nmF_fold ns, show keyD (.str m) = (.inr m : Key) from rfl, dlk_dpt]
    by_cases e : n = m
    · subst e; simp
    · have e' : ¬ (.inr n : Key) = .inr m := fun z => e (Sum.inr.inj z)
      rw [if_neg e']
      simp [e]
theorem nmF_ok {kvs : List (Key × Dt)} {ns : List Str} (h : kvs.map (·.1) = ns.map Sum.inr) (hw : ∀ n ∈ ns, wordD (.str n) = true) {n : Str} : (dlk (nmF kvs) (.inr n)).isSome = decide (n ∈ ns) := by
  unfold nmF
  rw [ks_map h, List.filter_eq_self.mpr (fun d hd => by
    obtain ⟨m, hm, rfl⟩ := List.mem_map.mp hd
    exact hw m hm), nmF_fold]
  show (decide (n ∈ ns) || false) = _
  rw [Bool.or_false]
theorem wire_ok {kvs : List (Key × Dt)} {x : Wi} (h1 : (dlk kvs (.inr x.1)).isSome = true) (h2 : ∀ t ∈ x.2, cg 7 t = true) : wireF kvs (wD x) = true ∧ aswF (wD x) = wD x := by
  refine ⟨?_, ?_⟩
  · show (inK kvs (.str x.1) && allG (.lst x.2)) = true
    show ((dlk kvs (.inr x.1)).isSome && x.2.all (grF 9)) = true
    rw [h1, Bool.true_and, List.all_eq_true]
    exact fun t ht => cg_gr (cg_mono (h2 t ht) (by decide))
  · show Dt.tup [.str x.1, .lst (x.2.map (asF 9))] = Dt.tup [.str x.1, .lst x.2]
    have e : x.2.map (asF 9) = x.2 := by
      have := List.map_congr_left (l := x.2) (f := asF 9) (g := id) fun t ht => cg_as (cg_mono (h2 t ht) (by decide))
      rw [this, List.map_id]
    rw [e]
theorem box_ok {kvs ws : List (Key × Dt)} {ns : List Str} {ar : Str → Nat} {d : Dt} (h : GBox ns ar d) (hk : ∀ n ∈ ns, (dlk kvs (.inr n)).isSome = true) (hws : ∀ f t, dlk ws (.inr f) = some t → t = .int (ar f : Nat)) :
    boxF kvs ws d = true ∧ asbF d = d ∧ ∀ f t, dlk (wsF ws d) (.inr f) = some t → t = .int (ar f : Nat) := by
  cases h with
  | inp z hz =>
    refine ⟨?_, rfl, hws⟩
    show (true && (wordD (.str z) && eqF (.str "in") (.str "in"))) = true
    rw [hz]
    rfl
  | op f l hf hl ha hw =>
    have hwo : ∀ x ∈ l, wireF kvs (wD x) = true ∧ aswF (wD x) = wD x := fun x hx => wire_ok (hk _ (hw x hx).1) (hw x hx).2
    refine ⟨?_, ?_, ?_⟩
    · show (true && (wordD (.str f) && (eqF (.str "op") (.str "op") && (decide (1 ≤ (l.map wD).length ∧ (l.map wD).length ≤ 4) && ((l.map wD).all (wireF kvs) && eqF ((dlk ws (.inr f)).getD (.int (l.map wD).length)) (.int (l.map wD).length)))))) = true
      rw [hf, decide_eq_true (by rw [List.length_map]; exact hl), List.all_eq_true.mpr (fun y hy => by
        obtain ⟨x, hx, rfl⟩ := List.mem_map.mp hy
        exact (hwo x hx).1)]
      have e : eqF ((dlk ws (.inr f)).getD (.int (l.map wD).length)) (.int (l.map wD).length) = true := by
        have e2 : (dlk ws (.inr f)).getD (.int (l.map wD).length) = .int (l.map wD).length := by
          cases q : dlk ws (.inr f) with
          | none => rfl
          | some t => rw [hws f t q, ha, List.length_map]; rfl
        rw [e2]
        exact beq_self_eq_true _
      rw [e]
      rfl
    · show Dt.tup [.str "op", .str f, .lst ((l.map wD).map aswF)] = _
      have e : (l.map wD).map aswF = l.map wD := by
        have := List.map_congr_left (l := l.map wD) (f := aswF) (g := id) fun y hy => by
          obtain ⟨x, hx, rfl⟩ := List.mem_map.mp hy
          exact (hwo x hx).2
        rw [this, List.map_id]
      rw [e]
    · intro g t hg
      change dlk (dpt ws (.inr f) (.int (l.map wD).length)) (.inr g) = some t at hg
      rw [dlk_dpt] at hg
      by_cases e : (.inr g : Key) = .inr f
      · rw [if_pos e] at hg
        rw [← Option.some.inj hg, Sum.inr.inj e, ha, List.length_map]
      · rw [if_neg e] at hg
        exact hws g t hg
theorem chkB_go {nm bt : List (Key × Dt)} {ns : List Str} {ar : Str → Nat} (G : GB bt ns ar) (hk : ∀ n ∈ ns, (dlk nm (.inr n)).isSome = true) : ∀ (post pre ws : List (Key × Dt)), bt = pre ++ post → (∀ f t, dlk ws (.inr f) = some t → t = .int (ar f : Nat)) →
    chkB nm bt (post.map fun kv => kDt kv.1) pre ws = .inr bt
  | [], pre, ws, e, _ => by
    rw [e, List.append_nil]
    rfl
  | kv :: post, pre, ws, e, hws => by
    have hmem : kv ∈ bt := by rw [e]; exact List.mem_append_right _ (List.mem_cons_self ..)
    have hks : kv.1 ∈ ns.map (Sum.inr : Str → Key) := by rw [← G.ks]; exact List.mem_map_of_mem hmem
    obtain ⟨n, hn, hkn⟩ := List.mem_map.mp hks
    obtain ⟨k, v⟩ := kv
    cases hkn
    have hnd : (bt.map (·.1)).Nodup := by rw [G.ks]; exact inr_nd G.nd
    have hv := dlk_nd hnd hmem
    obtain ⟨b1, b2, b3⟩ := box_ok (G.bx _ hmem) hk hws
    show (if wordD (.str n) = true ∧ boxF nm ws ((dlk bt (.inr n)).getD .non) = true then
      chkB nm bt (post.map fun kv => kDt kv.1) (dpt pre (.inr n) (asbF ((dlk bt (.inr n)).getD .non))) (wsF ws (asbF ((dlk bt (.inr n)).getD .non)))
      else .inl (.str n)) = _
    rw [hv]
    show (if wordD (.str n) = true ∧ boxF nm ws v = true then chkB nm bt (post.map fun kv => kDt kv.1) (dpt pre (.inr n) (asbF v)) (wsF ws (asbF v)) else .inl (.str n)) = _
    rw [if_pos ⟨G.wd n hn, b1⟩, b2]
    have hnew : (.inr n : Key) ∉ pre.map (·.1) := fun z => by
      rw [e, List.map_append, List.nodup_append] at hnd
      exact hnd.2.2 _ z _ (by rw [List.map_cons]; exact List.mem_cons_self ..) rfl
    show chkB nm bt (post.map fun kv => kDt kv.1) (dpt pre (.inr n) v) (wsF ws v) = .inr bt
    rw [dpt_new hnew]
    exact chkB_go G hk post _ _ (by rw [e, List.append_assoc]; rfl) b3
theorem chkB_ok {bt : List (Key × Dt)} {ns : List Str} {ar : Str → Nat} (G : GB bt ns ar) : chkB (nmF bt) bt (bt.map fun kv => kDt kv.1) [] [] = .inr bt :=
  chkB_go G (fun n hn => by rw [nmF_ok G.ks G.wd]; exact decide_eq_true hn) bt [] [] rfl fun f t h => by cases h
theorem gb_len {bt : List (Key × Dt)} {ns : List Str} (h : bt.map (·.1) = ns.map Sum.inr) : bt.length = ns.length := by
  have := congrArg List.length h
  simpa using this
theorem GBox.dep {ns : List Str} {ar : Str → Nat} {d : Dt} (h : GBox ns ar d) (hns : ∀ n ∈ ns, wordD (.str n) = true) : dat d = true ∧ dep d ≤ 11 := by
  cases h with
  | inp z hz =>
    refine ⟨?_, ?_⟩
    · unfold dat dats dats dats dat
      rw [(word_ok hz).1, show PyData.strOk "in" = true from by decide +kernel]
      rfl
    · rw [dep_tup]; have : deps [.str "in", .str z] ≤ 0 := deps_le fun y hy => by
        rcases List.mem_cons.mp hy with e | hy
        · rw [e]; unfold Wv.dep; omega
        · rw [List.mem_singleton.mp hy]; unfold Wv.dep; omega
      omega
  | op f l hf hl ha hw =>
    refine ⟨?_, ?_⟩
    · unfold dat dats dats dats dats
      rw [show dat (.str "op") = true from by unfold dat; decide +kernel, show dat (.str f) = true from by unfold dat; exact (word_ok hf).1, show dat (.lst (l.map wD)) = true from by
        unfold dat
        exact dats_of fun y hy => by
          obtain ⟨x, hx, rfl⟩ := List.mem_map.mp hy
          exact wD_dat (word_ok (hns _ (hw x hx).1)).1 (hw x hx).2]
      rfl
    · rw [dep_tup]
      have : deps [.str "op", .str f, .lst (l.map wD)] ≤ 10 := deps_le fun y hy => by
        simp only [List.mem_cons, List.not_mem_nil, or_false] at hy
        rcases hy with e | e | e
        · rw [e]; unfold Wv.dep; omega
        · rw [e]; unfold Wv.dep; omega
        · rw [e, dep_lst]
          have : deps (l.map wD) ≤ 9 := deps_le fun y hy => by
            obtain ⟨x, hx, rfl⟩ := List.mem_map.mp hy
            exact wD_dep (hw x hx).2
          omega
      omega
end Lw
namespace Lw
open PySem PySem.Spec PyProof.Rows L2 Evl Wv
/-! ### Net(boxes, outputs) of good parts -/
def wsOf : Dt → List Wi
  | .tup [_, _, .lst l] => l.filterMap unW
  | _ => []
def bxOf (bt : List (Key × Dt)) (n : Str) : List Wi := match dlk bt (.inr n) with
  | some b => wsOf b
  | none => []
theorem unW_map (ws : List Wi) : (ws.map wD).filterMap unW = ws := by
  rw [List.filterMap_map, show (unW ∘ wD) = some from rfl, List.filterMap_some]
theorem GBox.kb {ns : List Str} {ar : Str → Nat} {d : Dt} (h : GBox ns ar d) : KB d (wsOf d) ∧ ∀ x ∈ wsOf d, x.1 ∈ ns ∧ ∀ t ∈ x.2, cg 7 t = true := by
  cases h with
  | inp z hz => exact ⟨.inp z, fun x hx => by cases hx⟩
  | op f l hf hl ha hw =>
    have e : wsOf (.tup [.str "op", .str f, .lst (l.map wD)]) = l := unW_map l
    rw [e]
    exact ⟨.op f l fun x hx => ⟨dats_cg (hw x hx).2, by have := deps_cg (hw x hx).2; omega⟩, hw⟩
theorem GB.at {bt : List (Key × Dt)} {ns : List Str} {ar : Str → Nat} (G : GB bt ns ar) {n : Str} (hn : n ∈ ns) : ∃ b, dlk bt (.inr n) = some b ∧ GBox ns ar b := by
  have : (dlk bt (.inr n)).isSome = true := by rw [dlk_ks G.ks]; exact decide_eq_true hn
  obtain ⟨b, hb⟩ := Option.isSome_iff_exists.mp this
  exact ⟨b, hb, G.bx _ (dlk_mem hb)⟩
theorem GB.boxT {bt : List (Key × Dt)} {ns : List Str} {ar : Str → Nat} (G : GB bt ns ar) : BoxT bt ns (bxOf bt) := by
  refine ⟨G.ks, G.nd, fun n hn => ?_, by have := G.sz; simp only [Zz]; omega, fun n hn => ?_⟩
  · obtain ⟨b, hb, g⟩ := G.at hn
    refine ⟨b, hb, ?_⟩
    unfold bxOf
    rw [hb]
    exact g.kb.1
  · have := (word_ok (G.wd n hn)).2.1
    simp only [Zz]; omega
theorem GB.pre {bt : List (Key × Dt)} {ns : List Str} {ar : Str → Nat} (G : GB bt ns ar) : PreB 12 bt := by
  refine ⟨by rw [gb_len G.ks]; have := G.sz; simp only [Zz]; omega, fun kv hkv z hz => ?_, fun kv hkv => ?_⟩
  · have : kv.1 ∈ ns.map (Sum.inr : Str → Key) := by rw [← G.ks]; exact List.mem_map_of_mem hkv
    obtain ⟨n, hn, e⟩ := List.mem_map.mp this
    rw [hz] at e
    cases e
    have := (word_ok (G.wd _ hn)).2.1
    simp only [Zz]; omega
  · obtain ⟨h1, h2⟩ := (G.bx kv hkv).dep G.wd
    exact ⟨pur_dat _ h1, by omega⟩
theorem len_sub {α : Type} [BEq α] [LawfulBEq α] : ∀ {l l' : List α}, l.Nodup → (∀ a ∈ l, a ∈ l') → l.length ≤ l'.length
  | [], _, _, _ => Nat.zero_le _
  | a :: l, l', nd, h => by
    rw [List.nodup_cons] at nd
    have ha := h a (List.mem_cons_self ..)
    have := len_sub (l' := l'.erase a) nd.2 fun b hb => (List.mem_erase_of_ne fun z => nd.1 (by rw [← z]; exact hb)).mpr (h b (List.mem_cons_of_mem _ hb))
    rw [List.length_erase_of_mem ha] at this
    have := List.length_pos_of_mem ha
    rw [List.length_cons]
    omega
theorem ord_all {ns found : List Str} {bx : Str → List Wi} (nd : ns.Nodup) (rk : Str → Nat) (hr : ∀ n ∈ ns, ∀ x ∈ bx n, x.2 = [] → x.1 ∈ ns ∧ rk x.1 < rk n) (o : Ord ns bx found) : (∀ n ∈ ns, n ∈ found) ∧ found.length = ns.length := by
  have all : ∀ m : Nat, ∀ n ∈ ns, rk n < m → n ∈ found := by
    intro m
    induction m with
    | zero => intro n _ h; omega
    | succ m ih =>
      intro n hn hm
      refine o.cl n hn fun x hx hz => ?_
      obtain ⟨h1, h2⟩ := hr n hn x hx hz
      exact ih x.1 h1 (by omega)
  have h1 : ∀ n ∈ ns, n ∈ found := fun n hn => all _ n hn (Nat.lt_succ_self _)
  exact ⟨h1, Nat.le_antisymm (len_sub o.nd o.sub) (len_sub nd h1)⟩
theorem chkO_go {ot bt : List (Key × Dt)} {ns os : List Str} (G : GO ot ns os) (hk : ∀ n ∈ ns, (dlk bt (.inr n)).isSome = true) : ∀ (post pre : List (Key × Dt)), ot = pre ++ post → chkO bt ot (post.map fun kv => kDt kv.1) pre = .inr ot
  | [], pre, e => by rw [e, List.append_nil]; rfl
  | kv :: post, pre, e => by
    have hmem : kv ∈ ot := by rw [e]; exact List.mem_append_right _ (List.mem_cons_self ..)
    have hks : kv.1 ∈ os.map (Sum.inr : Str → Key) := by rw [← G.ks]; exact List.mem_map_of_mem hmem
    obtain ⟨n, hn, hkn⟩ := List.mem_map.mp hks
    obtain ⟨k, v⟩ := kv
    cases hkn
    have hnd : (ot.map (·.1)).Nodup := by rw [G.ks]; exact inr_nd G.nd
    have hv := dlk_nd hnd hmem
    obtain ⟨x, ex, hx1, hx2⟩ := G.ow _ hmem
    have ex : v = wD x := ex
    subst ex
    obtain ⟨b1, b2⟩ := wire_ok (hk _ hx1) hx2
    have hl : ot.length ≤ 4 := by rw [gb_len G.ks]; exact G.sz
    have hl2 : ¬ pre.length = 4 := by rw [e, List.length_append, List.length_cons] at hl; omega
    show (if ¬ pre.length = 4 ∧ wordD (.str n) = true ∧ wireF bt ((dlk ot (.inr n)).getD .non) = true then chkO bt ot (post.map fun kv => kDt kv.1) (dpt pre (.inr n) (aswF ((dlk ot (.inr n)).getD .non))) else .inl (.str n)) = _
    rw [hv]
    show (if ¬ pre.length = 4 ∧ wordD (.str n) = true ∧ wireF bt (wD x) = true then chkO bt ot (post.map fun kv => kDt kv.1) (dpt pre (.inr n) (aswF (wD x))) else .inl (.str n)) = _
    rw [if_pos ⟨hl2, G.wd n hn, b1⟩, b2]
    have hnew : (.inr n : Key) ∉ pre.map (·.1) := fun z => by
      rw [e, List.map_append, List.nodup_append] at hnd
      exact hnd.2.2 _ z _ (by rw [List.map_cons]; exact List.mem_cons_self ..) rfl
    rw [dpt_new hnew]
    exact chkO_go G hk post _ (by rw [e, List.append_assoc]; rfl)
theorem GO.pre {ot : List (Key × Dt)} {ns os : List Str} (G : GO ot ns os) (hns : ∀ n ∈ ns, wordD (.str n) = true) : PreB 10 ot := by
  refine ⟨by rw [gb_len G.ks]; have := G.sz; simp only [Zz]; omega, fun kv hkv z hz => ?_, fun kv hkv => ?_⟩
  · have : kv.1 ∈ os.map (Sum.inr : Str → Key) := by rw [← G.ks]; exact List.mem_map_of_mem hkv
    obtain ⟨n, hn, e⟩ := List.mem_map.mp this
    rw [hz] at e
    cases e
    have := (word_ok (G.wd _ hn)).2.1
    simp only [Zz]; omega
  · obtain ⟨x, ex, hx1, hx2⟩ := G.ow kv hkv
    rw [ex]
    exact ⟨pur_dat _ (wD_dat (word_ok (hns _ hx1)).1 hx2), by have := wD_dep hx2; omega⟩
/-- all of a good net -/
structure GN (bt ot : List (Key × Dt)) (ns os : List Str) (ar rk : Str → Nat) : Prop extends GB bt ns ar where
  go : GO ot ns os
  rk : ∀ n ∈ ns, ∀ x ∈ bxOf bt n, x.2 = [] → rk x.1 < rk n
theorem GB.wire {bt : List (Key × Dt)} {ns : List Str} {ar : Str → Nat} (G : GB bt ns ar) {n : Str} (hn : n ∈ ns) {x : Wi} (hx : x ∈ bxOf bt n) : x.1 ∈ ns ∧ ∀ t ∈ x.2, cg 7 t = true := by
  obtain ⟨b, hb, g⟩ := G.at hn
  unfold bxOf at hx
  rw [hb] at hx
  exact g.kb.2 x hx
section
variable {P : Program} {w : World} {K : PySem.W.Frag} {mg : Str → Option Value} {base : Heap}
theorem rn_good {T : Txt P K mg} {bt ot : List (Key × Dt)} {ns os : List Str} {ar rk : Str → Nat} {Pd : Dt → Prop} {xe : Addr → List (Str × Dt) → Prop} (G : GN bt ot ns os ar rk) (h : ∀ found, Ord ns (bxOf bt) found → (∀ n ∈ ns, n ∈ found) → Pd (netD T bt ot found)) :
    RN T [.dct bt, .dct ot] Pd xe := by
  refine ⟨_, _, rfl, .dct bt, rfl, .inl ⟨bt, rfl, G.toGB.pre, ?_⟩⟩
  rw [chkB_ok G.toGB]
  refine ⟨bt, ns, bxOf bt, rfl, G.toGB.boxT, .dct ot, bt, rfl, .inl ⟨ot, rfl, G.go.pre G.wd, ?_⟩⟩
  rw [show chkO bt ot (ot.map fun kv => kDt kv.1) [] = .inr ot from chkO_go G.go (fun n hn => by rw [dlk_ks G.ks]; exact decide_eq_true hn) ot [] rfl]
  refine ⟨ot, rfl, fun found ho => ?_⟩
  have := ord_all G.nd rk (fun n hn x hx hz => ⟨(G.toGB.wire hn hx).1, G.rk n hn x hx hz⟩) ho
  exact ⟨this.2, h found ho this.1⟩
end
end Lw
namespace Lw
open PySem PySem.Spec PyProof.Rows L2 Evl Wv
/-! ### drawn nets are good -/
def arF (f : Str) : Nat := ((arT.lookup f).getD 0).toNat
theorem arF_ok {f : Str} {n : Nat} (h : (f, (n : Int)) ∈ arT) : arF f = n ∧ wordD (.str f) = true ∧ 1 ≤ n ∧ n ≤ 4 := by
  have := List.all_eq_true.mp (show (arT.all fun p => decide (arF p.1 = p.2.toNat ∧ wordD (.str p.1) = true ∧ 1 ≤ p.2.toNat ∧ p.2.toNat ≤ 4)) = true by decide +kernel) _ h
  exact of_decide_eq_true this
theorem bxN_word {n : Str} (h : n ∈ bxN) : wordD (.str n) = true :=
  List.all_eq_true.mp (show (bxN.all fun n => wordD (.str n)) = true by decide +kernel) _ h
def osOf (ot : List (Key × Dt)) : List Str := if ot.length = 1 then ["o"] else ["o", "r"]
theorem idx_nd {row : List Str} (nd : row.Nodup) {i : Nat} {n : Str} (h : row[i]? = some n) : row.idxOf n = i := by
  obtain ⟨hi, e⟩ := List.getElem?_eq_some_iff.mp h
  rw [← e]
  exact nd.idxOf_getElem i hi
theorem Drawn.good {ops : Nat} {bt ot : List (Key × Dt)} {row : List Str} (D : Drawn ops bt ot row) (ho : ops ≤ 20) : GN bt ot row (osOf ot) arF (row.idxOf ·) := by
  have hw : ∀ n ∈ row, wordD (.str n) = true := fun n hn => bxN_word (D.nm n hn)
  have bx1 : ∀ {i : Nat} {d : Dt}, DBox row i d → GBox row arF d := fun {i d} h => by
    cases h with
    | inp z hz => exact .inp z (by rcases hz with rfl | rfl <;> decide +kernel)
    | op f ws ha hw2 =>
      obtain ⟨h1, h2, h3⟩ := arF_ok ha
      exact .op f ws h2 h3 h1 fun x hx => by
        obtain ⟨h4, _, j, h5, _⟩ := hw2 x hx
        exact ⟨List.mem_of_getElem? h5, h4⟩
  have gb : GB bt row arF := ⟨D.ks, D.nd, hw, fun kv hkv => by
    obtain ⟨i, hi⟩ := List.mem_iff_getElem?.mp hkv
    exact bx1 (D.bx i kv hi), by have := D.len; omega⟩
  have ho2 : ot.map (·.1) = (osOf ot).map Sum.inr := by
    rcases D.os with h | h
    · have e : ot.length = 1 := by have := congrArg List.length h; simpa using this
      unfold osOf
      rw [if_pos e, h]
      rfl
    · have e : ¬ ot.length = 1 := by have := congrArg List.length h; simp at this; omega
      unfold osOf
      rw [if_neg e, h]
      rfl
  refine ⟨gb, ⟨ho2, ?_, ?_, ?_, fun kv hkv => ?_⟩, fun n hn x hx hz => ?_⟩
  · unfold osOf; split <;> decide
  · intro n hn
    have : n ∈ (["o", "r"] : List Str) := by
      unfold osOf at hn
      split at hn
      · rw [List.mem_singleton.mp hn]; exact List.mem_cons_self ..
      · exact hn
    exact List.all_eq_true.mp (show ((["o", "r"] : List Str).all fun n => wordD (.str n)) = true by decide +kernel) _ this
  · unfold osOf; split <;> decide
  · obtain ⟨x, h1, h2, h3, _⟩ := D.ow kv hkv
    exact ⟨x, h1, h2, h3⟩
  · obtain ⟨b, hb, _⟩ := gb.at hn
    unfold bxOf at hx
    rw [hb] at hx
    obtain ⟨i, hi⟩ := List.mem_iff_getElem?.mp (dlk_mem hb)
    have hrow : row[i]? = some n := by
      have := congrArg (·[i]?) D.ks
      simp only [List.getElem?_map, hi] at this
      cases q : row[i]? with
      | none => rw [q] at this; cases this
      | some m => rw [q] at this; cases this; rfl
    have hd := D.bx i _ hi
    have hd : DBox row i b := hd
    show row.idxOf x.1 < row.idxOf n
    rw [idx_nd D.nd hrow]
    cases hd with
    | inp z hz => cases hx
    | op f ws ha hw2 =>
      have hx : x ∈ (ws.map wD).filterMap unW := hx
      rw [unW_map] at hx
      obtain ⟨_, _, j, h5, h6⟩ := hw2 x hx
      rw [idx_nd D.nd h5]
      exact h6 hz
end Lw
namespace Lw
open PySem PySem.Spec PyProof.Rows L2 Evl Wv
/-! ### equal nets -/
/-- a dict of data that may be compared -/
def cmpK (ks : List (Key × Dt)) : Prop := ∀ kv ∈ ks, shk kv.2
theorem shk_of {d : Dt} (h : dat d = true) (hd : dep d < 50) : shk d := ⟨shp_of h (by omega), by have := dep_toP d; omega⟩
theorem eqK_refl {ks : List (Key × Dt)} (nd : (ks.map (·.1)).Nodup) (h : ∀ kv ∈ ks, dat kv.2 = true) : eqK ks ks = true := by
  unfold eqK hitD
  rw [beq_self_eq_true, Bool.true_and, List.all_eq_true]
  intro p hp
  rw [dlk_nd nd (v := p.2) hp]
  exact SeqAt.eqv_refl _ (can_dat _ (h p hp))
theorem GB.cmp {bt : List (Key × Dt)} {ns : List Str} {ar : Str → Nat} (G : GB bt ns ar) : cmpK bt ∧ eqK bt bt = true := by
  have h : ∀ kv ∈ bt, dat kv.2 = true ∧ dep kv.2 ≤ 11 := fun kv hkv => (G.bx kv hkv).dep G.wd
  exact ⟨fun kv hkv => shk_of (h kv hkv).1 (by have := (h kv hkv).2; omega), eqK_refl (by rw [G.ks]; exact inr_nd G.nd) fun kv hkv => (h kv hkv).1⟩
theorem GO.cmp {ot : List (Key × Dt)} {ns os : List Str} (G : GO ot ns os) (hw : ∀ n ∈ ns, wordD (.str n) = true) : cmpK ot ∧ eqK ot ot = true := by
  have h : ∀ kv ∈ ot, dat kv.2 = true ∧ dep kv.2 ≤ 9 := fun kv hkv => by
    obtain ⟨x, e, h1, h2⟩ := G.ow kv hkv
    rw [e]
    exact ⟨wD_dat (word_ok (hw _ h1)).1 h2, wD_dep h2⟩
  exact ⟨fun kv hkv => shk_of (h kv hkv).1 (by have := (h kv hkv).2; omega), eqK_refl (by rw [G.ks]; exact inr_nd G.nd) fun kv hkv => (h kv hkv).1⟩
section
variable {P : Program} {w : World} {K : PySem.W.Frag} {mg : Str → Option Value} {base : Heap}
def RNeq (T : Txt P K mg) : Rd3 := fun ds Pd _ => ∃ b1 o1 f1 b2 o2 f2, ds = [netD T b1 o1 f1, netD T b2 o2 f2] ∧ (cmpK b1 ∧ cmpK o1 ∧ cmpK b2 ∧ cmpK o2) ∧ Pd (.bl (eqK b1 b2 && eqK o1 o2))
theorem ok_Net_eq (T : Txt P K mg) : FnOk P w K mg base CX0 1 T.a_Net_eq T.d_Net_eq ["self", "other"] (spW K false (RNeq T)) := by
  refine T.F_Net_eq.ok sc_Net_eq (fun vs H Q E h => w_len 2 h fun _ _ _ ⟨_, _, _, _, _, _, e, _⟩ => by rw [e]; rfl) (fun cdv A outer s H vs Q E hr h => ⟨_, PSs.nox (pss_cons (ps_if (pt_not (pt_val (pe_callB (u_isinstance K) rfl T.n_isinstance (by decide +kernel) (pa_cons (pv 1) (pa_cons (pe_glob (v := .ref (T.c_Net)) rfl T.g_Net rfl) pa_nil))))) (pss_one (ps_ret pe_bl)) pss_nil) (pss_one (ps_ret (pe_and (pe_cmpR (uEq K (hu64 hr)) (pe_fld (pv 0) rfl) (pe_fld (pv 1) rfl) (nomark _)) (pe_one (pe_cmpR (uEq K (hu64 hr)) (pe_fld (pv 0) rfl) (pe_fld (pv 1) rfl) (nomark _))))))), w_start h 2 rfl fun ds Pd xe ⟨b1, o1, f1, b2, o2, f2, e, ⟨h1, h2, h3, h4⟩, p⟩ => ?_⟩)
  subst e
  refine ⟨Nat.le_of_ble_eq_true rfl, ?_⟩
  refine wd_seq (wd_if (eb_not (eb_B (et_isOwn T.l_Net T.i_Net (et_var rfl ⟨.inr ⟨_, rfl⟩, nt rfl (wd_next ?_)⟩)))))
  refine wd_ret (et_andV (et_op rop_eq (et_fld T.l_Net T.o_Net_box_table (et_var rfl ⟨_, _, rfl, rfl, et_fld T.l_Net T.o_Net_box_table (et_var rfl ⟨_, _, rfl, rfl, h1, h3, ?_⟩)⟩))))
  cases hb : eqK b1 b2 with
  | false =>
    rw [hb] at p
    exact bf rfl p
  | true =>
    rw [hb, Bool.true_and] at p
    exact bt rfl (et_op rop_eq (et_fld T.l_Net T.o_Net_output_table (et_var rfl ⟨_, _, rfl, rfl, et_fld T.l_Net T.o_Net_output_table (et_var rfl ⟨_, _, rfl, rfl, h2, h4, p⟩)⟩)))
end
end Lw
/-! defs called where an error is handled: the error is their argument -/
namespace Wv
open PySem PySem.Spec PyProof.Rows L2 Evl L2H
/-- a promise told of the handled error: its address, class, dict -/
abbrev SpE : Type := Addr → Value → Option Addr → Sp
structure FnC (P : Program) (w : World) (K : PySem.W.Frag) (mg : Str → Option Value) (base : Heap) (k : Nat) (f : Addr) (fd : FuncData) (ps : List Str) (sp : SpE) : Prop where
  len : ∀ a cls d vs H Q E, sp a cls d vs H Q E → vs.length = ps.length
  run : ∀ (A : Around) (outer : List Env) (s : Shared) (H : Hp) (args : Args) (us : List Value) (vs : List V) (Q : VK) (E : XK) (p : Addr × Obj) (cls : Value) (d : Option Addr), RoomH k A → Zc cls d p.2 → (∃ vs, p.2.data = .fields vs) → PinOk outer H s p → Env0 P w K mg base A outer s H →
    BindsTo s fd args (ps.zip us) → Vals vs us → sp p.1 cls d vs H Q E → codeAny (model P w) A (.call (.ref f) args) (CR CX0 outer P w H s Q E) s
theorem _root_.L2.FunD.okC {P : Program} {w : World} {K : PySem.W.Frag} {mg : Str → Option Value} {base : Heap} {x qual : Str} {params : Arguments} {body : List Stmt} {scope : Scope} {dvs : List V} {kws : List (Str × V)} {f : Addr} {fd : FuncData} {N ps : List Str} {k : Nat} {sp : SpE}
    (F : FunD K x qual params body scope dvs kws f fd) (S : FnScope N ps scope) (len : ∀ a cls d vs H Q E, sp a cls d vs H Q E → vs.length = ps.length)
    (hbody : ∀ (cdv : Value) (A : Around) (outer : List Env) (s : Shared) (H : Hp) (vs : List V) (Q : VK) (E : XK) (p : Addr × Obj) (cls : Value) (d : Option Addr), Zc cls d p.2 → (∃ vs, p.2.data = .fields vs) → RoomH k (A.deeper (envOfC qual scope s.heap.objs.size f cdv)) → sp p.1 cls d vs H Q E →
      ∃ t, PSs (cxH CX0 P w K mg base N qual scope f cdv A outer s H E p) body t ∧ t { nx := fun _ H' => Q .non H', rt := Q } (L2.start N vs) H) : FnC P w K mg base (k + 1) f fd ps sp := by
  obtain ⟨oc, od, dV, kV, doc, pm, an, cdv, ct, osl, rfl, lk, hcd, _, _⟩ := F.ex
  refine ⟨len, fun A outer s H args us vs Q E p cls d hr hz hf hpin e0 hb r hsp => ?_⟩
  have hl := len _ _ _ _ _ _ _ hsp
  have KX : K.In s.heap := e0.mod.kin.keeps fun b o e => (e0.bs b o e).1
  have lim : s.heap.NoLimit := e0.mod.nolimit.keeps fun b o e => (e0.bs b o e).1
  have hkind : ∀ y ∈ ps.zip us, scope.names.lookup y.1 = some .local ∨ (scope.names.lookup y.1 = some .cell ∧ ((cellsFrom (s.heap.objs.size + 1) scope.names []).lookup y.1).isSome = true) := fun ⟨n, v⟩ hy => by
    rcases S.par n (List.of_mem_zip hy).1 with q | q
    · exact .inl q
    · exact .inr ⟨q, PySem.W.cellsFrom_some _ _ _ (.inl q)⟩
  refine codeAny_call_function hr.depth (KX _ _ lk) rfl S.co S.gen rfl (PySem.W.codeRec_of KX hcd) (hb _ _ _ _ ?_)
  refine wpAny_newFunctionEnv_cells S.kind hkind fun env he s1 x => ?_
  subst he
  refine ⟨lim.keeps x.toInCall.keep, codeAny_func ?_⟩
  obtain ⟨t, ht, hq⟩ := hbody cdv A outer s H vs Q E p cls d hz hf (hr.deeper _) hsp
  have I : Inv (cxH CX0 P w K mg base N qual scope f cdv A outer s H E p) [] (L2.start N vs) H s1 := inv_startH S hpin e0 hl r x
  refine wpAny_mono (ht.run [] s1 (L2.start N vs) H _ I hq) (fun fl s' hs => ?_) fun e s' hs => hs
  have fin : ∀ {σ' : L2.St} {H' : Hp} {v : V} {u : Value}, Inv (cxH CX0 P w K mg base N qual scope f cdv A outer s H E p) [] σ' H' s' → RelV v u → Q v H' → CE outer P w H s Q u s' :=
    fun {σ' H' v u} J rv q => ⟨v, H', J.os, J.bare, J.base, J.hok, rv, q⟩
  cases fl with
  | ret u =>
    obtain ⟨v, σ', H', J, rv, q⟩ := hs
    exact fin J rv q
  | next =>
    obtain ⟨σ', H', J, q⟩ := hs
    exact fin (v := V.non) (u := Value.none) J rfl q
  | brk =>
    obtain ⟨_, _, _, q⟩ := hs
    exact False.elim q
  | cont =>
    obtain ⟨_, _, _, q⟩ := hs
    exact False.elim q
section
variable {X : Cx} {k : Nat} {f : Addr} {fd : FuncData} {ps : List Str} {sp : SpE} {x : Str} {q pos : Pos} {e : Expr} {es : List Expr} {te : TE} {t : TA} {p : Addr × Obj} {cls : Value} {d : Option Addr}
def tCallC (sp : SpE) (a : Addr) (cls : Value) (d : Option Addr) (t : TA) : TE := fun σ H Q => t σ H fun vs H1 => sp a cls d vs H1 Q E0
/-- f(e, ..) where the error is handled -/
theorem pe_callC (F : FnC X.prog X.w X.K X.mg X.base k f fd ps sp) (hr : RoomH k X.A) (hp : p ∈ X.pn) (hz : Zc cls d p.2) (hf : ∃ vs, p.2.data = .fields vs) (hg : Gl X x) (hm : X.mg x = some (.ref f)) (hk : PySem.W.keepIn X.K (.ref f) = true) (hb : Binds X.K fd ps [])
    (ha : PA X (e :: es) t) (hdb : (x == ("__debug__" : Str)) = false := by decide) (he : starEach (e :: es) X.env = (false, eval e X.env) :: starEach es X.env := by rfl) (hpl : (backTo pos (starEach es X.env)).any (·.1) = false := by rfl) :
    PE X (.Call (.Name x q) (e :: es) [] pos) (tCallC sp p.1 cls d t) := by
  refine ⟨fun pins s σ H Q I h => ?_⟩
  refine wpAny_Call_Name_kw (ld_glob I hg hm ?_ hdb)
  refine PySem.W.callWith_K (h₀ := X.base) I.ok.mod.kin hk (thn (ha.run pos pins s σ H _ I h) fun us s1 ⟨vs, H1, I1, r, q⟩ => ⟨I1.kIn, ?_⟩) he hpl
  have hl : us.length = ps.length := by rw [← r.length]; exact F.len _ _ _ _ _ _ _ q
  have b := hb s1 us I1.kIn (by rw [List.append_nil]; exact hl)
  rw [List.append_nil] at b
  have P1 := I1.pin p (List.mem_append_left _ hp)
  have hpin : PinOk X.stack H1 s1 p := ⟨P1.1, P1.2.1, fun hm => (List.mem_cons.mp (I1.stkSub p.1 hm)).elim P1.2.2.1 P1.2.2.2.1, P1.2.2.2.2⟩
  refine wpAny_call (codeAny_mono (F.run X.A X.stack s1 H1 ⟨us, []⟩ us vs Q E0 p cls d hr hz hf hpin I1.env0 b r q) fun r s' hq => ?_)
  cases r with
  | error e => exact (show False from hq).elim
  | ok fl =>
    cases fl with
    | ret u => exact I1.after hq
    | next => exact False.elim hq
    | brk => exact False.elim hq
    | cont => exact False.elim hq
/-- isinstance(e, c), e the handled error, dd its dict -/
def rIsP (K : PySem.W.Frag) (D a dd : Addr) : List V → Hp → VK → Prop := fun xs H Q => (∃ fs, H dd = some (.xd fs)) ∧ rIsE K D a xs H Q
theorem call_isP {D dd : Addr} (C : ExcC X.K D) (hp : p ∈ X.pn) (hz : Zc (.ref D) (some dd) p.2) (hf : ∃ vs, p.2.data = .fields vs) {K : PySem.W.Frag} (hK : X.K = K := by rfl) : CallR X (.builtin "isinstance") (rIsP K D p.1 dd) := by
  subst hK
  intro pins s σ H xs us Q I r h
  obtain ⟨⟨fs, hdd⟩, c, cv, b, rfl, hcv, e, q⟩ := h
  obtain ⟨mA, hns, _⟩ := (show ObjOk X.prog X.w H s.heap dd (.xd fs) from I.hok dd _ hdd)
  obtain ⟨od, ho, _⟩ := lookIn_ns hns
  cases r with
  | cons rx rr =>
    cases rr with
    | cons rt rr =>
      cases rr
      cases rx
      have ec := hcv _ rt
      subst ec
      obtain ⟨hget, _⟩ := I.pin p (List.mem_append_left _ hp)
      obtain ⟨vs, hv⟩ := hf
      have J : PySem.W.InstAt s.heap p.1 p.2 D (some od) := ⟨hget, hz.1, by unfold PySem.W.notCls; rw [hv] <;> rfl, by rw [hz.2]; exact ho⟩
      exact PySem.W.kia_one (Sx.kit_exc (od := some od) C) I.kIn J e (fun z => nomatch z) fun tk => ⟨.bl b, H, I.tok tk, rfl, q⟩
/-- e.f -/
def tXp (a D C dd : Addr) (f : Str) (te : TE) : TE := fun σ H Q => te σ H fun x H1 => x = .ref a ∧ D = C ∧ ∃ (fs : List (Str × V)) (v : V), H1 dd = some (.xd fs) ∧ fs.lookup f = some v ∧ Q v H1
theorem pe_xp {D C dd : Addr} {n : Str} {e : Expr} {te : TE} {pos : Pos} (T : XfC X.K C) (hno : PySem.W.findIn X.K (.ref C) n = some none) (hp : p ∈ X.pn) (hz : Zc (.ref D) (some dd) p.2) (hf : ∃ vs, p.2.data = .fields vs) (he : PE X e te)
    (hb : attributeBase e n X.env (eval e X.env) = eval e X.env := by rfl) : PE X (.Attribute e n pos) (tXp p.1 D C dd n te) := by
  refine ⟨fun pins s σ H Q I h => ?_⟩
  refine attr_of hb (thn (he.run pins s σ H _ I h) fun u s1 hh => ?_)
  obtain ⟨x, H1, I1, rx, ex, ec, fs, v, ea, l, q⟩ := hh
  subst ex
  obtain rfl : u = Value.ref p.1 := rx
  subst ec
  obtain ⟨ha, _⟩ := I1.pin p (List.mem_append_left _ hp)
  obtain ⟨vs, hd⟩ := hf
  have hx : ObjOk X.prog X.w H1 s1.heap dd (.xd fs) := I1.hok dd _ ea
  obtain ⟨mA, hns, hr⟩ := hx
  obtain ⟨od, ho, hl⟩ := lookIn_ns hns
  obtain ⟨u, hu, ru⟩ := RelO.some_of (v := v) (o := mA n) (by rw [← l]; exact hr n)
  have J : PySem.W.InstAt s1.heap p.1 p.2 D (some od) := ⟨ha, hz.1, by unfold PySem.W.notCls; rw [hd] <;> rfl, by rw [hz.2]; exact ho⟩
  exact HandSPX.exc_get I1.kIn J T.ga T.gg T.exC (PySem.W.findObj_own T.hdC hno rfl (by rw [hl, hu])) (handed_of ru) ⟨v, H1, I1.tok _, ru, q⟩
end
section
variable {K : PySem.W.Frag} {a D C dd : Addr} {σ : L2.St} {H : Hp} {Dn : Ends} {tu rest : TS} {fs : List (Str × V)}
theorem q_no (h0 : σ[0]? = some (some (V.ref a))) (hd : H dd = some (.xd fs)) (hk : PySem.W.kitOne K (.ref D) (.ref C) = some false) (h : rest Dn σ H) : tSeq (tIfS (tTest (tCB (rIsP K D a dd) (tCons (tVar 0) (tCons (tC (.ref C)) tNil)))) tu tNext) rest Dn σ H :=
  ⟨_, h0, ⟨fs, hd⟩, .ref C, .ref C, false, rfl, fun _ r => r, hk, false, rfl, h⟩
theorem q_yes (h0 : σ[0]? = some (some (V.ref a))) (hd : H dd = some (.xd fs)) (hk : PySem.W.kitOne K (.ref D) (.ref C) = some true) (h : tu { Dn with nx := rest Dn } σ H) : tSeq (tIfS (tTest (tCB (rIsP K D a dd) (tCons (tVar 0) (tCons (tC (.ref C)) tNil)))) tu tNext) rest Dn σ H :=
  ⟨_, h0, ⟨fs, hd⟩, .ref C, .ref C, true, rfl, fun _ r => r, hk, true, rfl, h⟩
theorem q_tag {tag y : Str} {x : V} (h0 : σ[0]? = some (some (V.ref a))) (hD : D = C) (hd : H dd = some (.xd [(y, x)])) (h : ∀ t, H t = none → Dn.rt (.ref t) (upd H t (.tup [.str tag, x]))) : tRet (tTup (tCons (tC (.str tag)) (tCons (tXp a D C dd y (tVar 0)) tNil))) Dn σ H :=
  ⟨_, h0, rfl, hD, _, x, hd, by simp [List.lookup], by show 2 ≤ sizeLine; decide, h⟩
end
end Wv
/-! a lambda handed to a def that tells its value or its error (after HandS.Lambda, with all kept but the one table), and the same over trees -/
namespace LamX
open PySem PySem.Spec PyProof.Rows L2
/-- all but what stands at P stays -/
def ExtP (P : Addr) (H H' : Hp) : Prop := ∀ b o, b ≠ P → H b = some o → H' b = some o
theorem ExtP.refl {P : Addr} (H : Hp) : ExtP P H H := fun _ _ _ h => h
section
variable {X : Cx} {pins : List (Addr × Obj)} {σ : L2.St} {H : Hp} {s : Shared}
/-- the lambda is made: its code object is new, or found in the table -/
theorem lam_makeP {T : List (Addr × Str)} {c P : Addr} {params : Arguments} {body : Expr} {scope : Scope} {pos : Pos} {E : Value → Shared → Prop} {Q : Value → Shared → Prop} (I : Inv X pins σ H s) (TB : TabB X.base X.mg c P) (hcode : X.env.code = .ref c)
    (hm : (P, X.env.qual ++ "<lambda>") ∈ T) (hu : ∀ p ∈ T, p.1 = P → p.2 = X.env.qual ++ "<lambda>") (hT : Tabs T H) (hdef : defaultsOf params X.env = ([], [])) (hfree : ∀ y ∈ scope.names, y.2 = .free → ∃ c, X.env.cells.lookup y.1 = some c)
    (h : ∀ (f c' : Addr) (pm ctv : Value) (H1 : Hp) (s' : Shared), Inv X pins σ H1 s' → ExtP P H H1 → Tabs T H1 →
      s'.heap.get? f = some (PySem.W.kla_obj "<lambda>" (X.env.qual ++ "<lambda>") params body scope (cloFrom X.env.cells scope.names []) pm c' ctv) → H1 f = none → f ∉ frs X.stack → H1 c' = some (CodeO c' (X.env.qual ++ "<lambda>")) → Q (.ref f) s') :
    wpAny (model X.prog X.w) X.A (eval (.Lambda params body scope pos) X.env) Q E s := by
  obtain ⟨ps, hP, ht, ha⟩ := hT _ hm
  refine PySem.W.kla_eval hdef ?_
  have bP : s.heap.BuiltinsAt X.mg P := TB.bm.keeps I.bk
  have hP' : s.heap.get? P = some { cls := .none, data := .fields ps } := I.hok P _ hP
  have nofr : ∀ f, s.heap.objs.size ≤ f → f ∉ frs X.stack := fun f hf z => by
    rcases List.mem_cons.mp (I.stkSub _ z) with e | e
    · have h1 := I.lt
      rw [← e] at h1
      exact Nat.lt_irrefl _ (Nat.lt_of_lt_of_le h1 hf)
    · exact I.nofs hf e
  cases hc : codeAmong pos ps.toList with
  | none =>
    refine PySem.W.kla_makeFunction (mg := X.mg) (c := c) (P := P) (ps := ps) (closure_ok hfree) I.ok.glob (I.mod.glob.keeps I.bk) hcode (TB.code.keeps I.bk) hP' ht hc TB.gP bP fun c' ctv h' tk hx hge hlt hrec htb => ?_
    obtain ⟨c2, oc, vs, t, e2, hoc, hd, hv⟩ := hrec
    cases e2
    have hsz : s.heap.objs.size ≤ h'.objs.size := Nat.le_trans hge (Nat.le_of_lt hlt)
    have nC : H c' = none := I.hok.fresh hge
    have I1 := inv_table (t' := tk) (more := #[rawInt pos.line, rawInt pos.col, .ref c']) (h' := h'.push (PySem.W.kla_obj "<lambda>" (X.env.qual ++ "<lambda>") params body scope (cloFrom X.env.cells scope.names []) ((X.mg "__name__").getD .none) c' ctv)) I hP
      (fun b o hb e => Heap.get?_push_of_some _ (hx b o hb e)) (Heap.get?_push_of_some _ htb) hge ⟨oc, vs, t, Heap.get?_push_of_some _ hoc, hd, hv⟩
    have hE : ExtP P H (upd (upd H P (.tbl (ps ++ #[rawInt pos.line, rawInt pos.col, .ref c']))) c' (CodeO c' (X.env.qual ++ "<lambda>"))) := fun b o nb e => by
      rw [upd_ne (ne_of_none e nC), upd_ne nb]
      exact e
    have hEc : ∀ {b : Addr} {q : Str}, H b = some (CodeO b q) → (upd (upd H P (.tbl (ps ++ #[rawInt pos.line, rawInt pos.col, .ref c']))) c' (CodeO c' (X.env.qual ++ "<lambda>"))) b = some (CodeO b q) := fun {b q} e => hE b _ (fun z => codeO_ne ps (Option.some.inj (e.symm.trans (by rw [z]; exact hP)))) e
    have eL : (ps ++ #[rawInt pos.line, rawInt pos.col, .ref c']).toList = ps.toList ++ [rawInt pos.line, rawInt pos.col, .ref c'] := by simp
    refine h h'.objs.size c' ((X.mg "__name__").getD .none) ctv _ _ I1 hE (fun p hp => ?_) (Heap.get?_push_size _ rfl) ?_ (nofr _ hsz) upd_same
    · by_cases hb : p.1 = P
      · rw [hu p hp hb, hb]
        refine ⟨_, by rw [upd_ne (ne_of_none hP nC), upd_same], by rw [eL]; exact PySem.TriplesOk_snoc _ _ _ _ ht, fun p' cv hcv => ?_⟩
        rw [eL] at hcv
        rcases among_app _ ht hcv with z | z
        · obtain ⟨c0, e1, e2⟩ := ha p' cv z
          exact ⟨c0, e1, hEc e2⟩
        · exact ⟨c', z, upd_same⟩
      · obtain ⟨ps', a1, a2, a3⟩ := hT p hp
        refine ⟨ps', by rw [upd_ne (ne_of_none a1 nC), upd_ne hb]; exact a1, a2, fun p' cv hcv => ?_⟩
        obtain ⟨c0, e1, e2⟩ := a3 p' cv hcv
        exact ⟨c0, e1, hEc e2⟩
    · have n1 : h'.objs.size ≠ c' := Nat.ne_of_gt hlt
      have n2 : h'.objs.size ≠ P := Nat.ne_of_gt (Nat.lt_of_lt_of_le (Heap.lt_size hP') hsz)
      rw [upd_ne n1, upd_ne n2]
      exact I.hok.fresh hsz
  | some cv =>
    obtain ⟨c', e, hco⟩ := ha pos cv hc
    subst e
    refine PySem.W.kla_makeFunctionHit (mg := X.mg) (c := c) (P := P) (ps := ps) (closure_ok hfree) I.ok.glob (I.mod.glob.keeps I.bk) hcode (TB.code.keeps I.bk) hP' ht hc bP fun ctv h' tk hx hsz => ?_
    have I1 : Inv X pins σ H { s with heap := h'.push (PySem.W.kla_obj "<lambda>" (X.env.qual ++ "<lambda>") params body scope (cloFrom X.env.cells scope.names []) ((X.mg "__name__").getD .none) c' ctv), toks := tk } := I.kept fun b o e => Heap.get?_push_of_some _ (hx b o e)
    exact h h'.objs.size c' ((X.mg "__name__").getD .none) ctv H _ I1 (ExtP.refl H) hT (Heap.get?_push_size _ rfl) (I.hok.fresh hsz) (nofr _ hsz) hco
end
def tLamP (P : Addr) (T : List (Addr × Str)) (TT : (XK → Hp → VK → Prop) → Hp → VK → Prop) (t : XK → TE) : TE := fun σ H Q => Tabs T H ∧ ∀ H1, ExtP P H H1 → Tabs T H1 → TT (fun E H' Q' => t E σ H' Q') H1 Q
section
variable {X : Cx}
/-- x(lambda: body) -/
theorem pe_lamcallP {T : List (Addr × Str)} {TT : (XK → Hp → VK → Prop) → Hp → VK → Prop} {x a : Str} {g c P : Addr} {k : Nat} {pg : Arguments} {bg : List Stmt} {sg : Scope} {dV kV doc pm cdv ct oc : Value} {an od : Option Addr} {osl : Array (Option Value)} {Ng : List Str}
    {params : Arguments} {body : Expr} {scope : Scope} {t : XK → TE} {p lpos pos : Pos} (hg : Gl X x) (hm : X.mg x = some (.ref g)) (hk : PySem.W.keepIn X.K (.ref g) = true)
    (lk : X.K.lookup g = some ⟨oc, od, .func (PySem.W.fnOf x x pg bg sg dV kV doc pm an cdv ct), osl⟩) (hcg : PySem.W.codeIn X.K cdv x = true) (hb : L2.Binds X.K (PySem.W.fnOf x x pg bg sg dV kV doc pm an cdv ct) [a] []) (Sg : FnScope Ng [a] sg) (hNg : Ng[0]? = some a) (hva : Vis sg a)
    (hG : GivesTo X Ng x sg g cdv bg a (X.env.qual ++ "<lambda>") TT)
    (TB : TabB X.base X.mg c P) (hcode : X.env.code = .ref c) (hmT : (P, X.env.qual ++ "<lambda>") ∈ T) (hu : ∀ p ∈ T, p.1 = P → p.2 = X.env.qual ++ "<lambda>") (hr : Room (k + 2) X.A) (L : LamS X.env.scope scope) (hdef : defaultsOf params X.env = ([], []))
    (hbind : ∀ (q : Str) (cl : List (Str × Addr)) (pm cv ctv : Value), bindArgs (PySem.W.kla_fn "<lambda>" q params body scope cl pm cv ctv) ⟨[], []⟩ = pure [])
    (hbody : ∀ (A : Around) (outer : List Env) (s : Shared) (H : Hp) (E : XK) (f c' : Addr), Room k (A.deeper (lamEnv X scope s.heap.objs.size f c')) → PE (lamCx X A outer s H E scope f c') body (t E))
    (hdb : (x == ("__debug__" : Str)) = false := by decide) (hd : (a == ("__debug__" : Str)) = false := by decide) (hcd : (a == ("__classdict__" : Str)) = false := by decide) :
    PE X (.Call (.Name x p) [.Lambda params body scope lpos] [] pos) (tLamP P T TT t) := by
  refine ⟨fun pins s σ H Q I h => ?_⟩
  obtain ⟨hT, h⟩ := h
  refine wpAny_Call_Name_kw (ld_glob I hg hm ?_ hdb)
  refine PySem.W.callWith_K (h₀ := X.base) I.ok.mod.kin hk ?_ (by rfl) (by rfl)
  show wpAny _ _ (spliced ((false, eval (.Lambda params body scope lpos) X.env) :: backTo pos (starEach [] X.env))) _ _ s
  refine Calls.spliced_cons (lam_makeP I TB hcode hmT hu hT hdef (L.has I.ok) fun f c' pm' ctv H1 s' I1 eN T1 hf hfn hfr hco => ?_)
  refine Calls.spliced_nil ⟨I1.kIn, ?_⟩
  have rc : codeAny (model X.prog X.w) X.A (.call (.ref g) ⟨[.ref f], []⟩) (CR C8.CX0 X.stack X.prog X.w H1 s' Q C8.E0) s' := by
    refine run_ofS (N := Ng) (ps := [a]) (us := [.ref f]) (vs := [.ref f]) lk hcg Sg hr I1.env0 (hb s' [.ref f] I1.kIn rfl) (.cons rfl .nil) rfl fun hr' => ?_
    obtain ⟨t', ht', hq'⟩ := hG f c' s' H1 Q (fun E H' Q' => t E σ H' Q') (fun W pn xe E p1 p2 tk hW => pe_act (i := 0) I1 L hf hfn hfr (hbind _ _ _ _ _) tk hW hr' (fun A outer s H hr2 => hbody A outer s H E f c' hr2) hNg hva hd hcd) hco (h H1 eN T1)
    exact ⟨t', ht'.nox, hq'⟩
  refine wpAny_call (codeAny_mono rc fun r s2 hq => ?_)
  cases r with
  | error e => exact (show False from hq).elim
  | ok fl =>
    cases fl with
    | ret u => exact I1.after hq
    | next => exact False.elim hq
    | brk => exact False.elim hq
    | cont => exact False.elim hq
end
end LamX

namespace Wv
open PySem PySem.Spec PyProof.Rows L2 Evl LamX
/-- told: ("told", what the call returns), or a word for the error with what it holds -/
def TTr (L : List (Addr × Str × Str)) : (XK → Hp → VK → Prop) → Hp → VK → Prop := fun tl H Q =>
  tl (fun cls d H' => ∃ (i : Nat) (C : Addr) (y tag : Str) (dd : Addr) (x : V), L[i]? = some (C, y, tag) ∧ cls = .ref C ∧ d = some dd ∧ H' dd = some (.xd [(y, x)]) ∧ ∀ t, H' t = none → Q (.ref t) (upd H' t (.tup [.str tag, x]))) H
    fun v H1 => ([V.str "told", v] : List V).length ≤ sizeLine ∧ ∀ t, H1 t = none → Q (.ref t) (upd H1 t (.tup [.str "told", v]))
/-- own lists and dicts are not seen -/
def Sl.hid : Sl → Sl
  | .own _ => .no
  | s => s
section
variable {g : Gx} {c : Cc} {σ : L2.St} {H H' : Hp} {env : List Sl}
theorem hid_no {i : Nat} {d : Dt} : (env.map Sl.hid)[i]? ≠ some (Sl.own d) := fun z => by
  rw [List.getElem?_map] at z
  cases e : env[i]? with
  | none => rw [e] at z; cases z
  | some s => rw [e] at z; cases s <;> cases z
theorem hid_v {i : Nat} {d : Dt} (h : (env.map Sl.hid)[i]? = some (Sl.v d)) : env[i]? = some (Sl.v d) := by
  rw [List.getElem?_map] at h
  cases e : env[i]? with
  | none => rw [e] at h; cases h
  | some s => rw [e] at h; cases s <;> first | exact h | cases h
theorem Sv.hid {lk : Bool} (S : Sv g.K c H σ env) : Sv g.K ⟨H, c.so, c.cc, Av c σ env, lk, lk⟩ H σ (env.map Sl.hid) := by
  refine ⟨Hb.av S, by rw [S.len, List.length_map], fun i j d e a z => absurd z hid_no, fun i d z => ?_, fun i d z => absurd z hid_no⟩
  obtain ⟨x, h1, h2⟩ := S.tree i d (hid_v z)
  refine ⟨x, h1, h2.mono fun a z => ?_⟩
  rcases z with z | ⟨i, d, z, _⟩
  · exact z
  · exact absurd z hid_no
/-- the heap grows, and one table -/
theorem Sv.extP {P : Addr} {q : Str} (S : Sv g.K c H σ env) (hP : (P, q) ∈ c.cc.T) (e : ExtP P H H') (t : Tabs c.cc.T H') : Sv g.K c H' σ env ∧ Ko (Mv c σ env) (An c σ env) H H' := by
  obtain ⟨ps, tP, _⟩ := S.stt.2 _ hP
  have tP : H P = some (.tbl ps) := tP
  obtain ⟨ps', tP', _⟩ := t _ hP
  have tP' : H' P = some (.tbl ps') := tP'
  have cP : Chg c.so c.cc P := .inr ⟨q, hP⟩
  have k : ∀ {A : Addr → Prop}, Ko (fun a => Chg c.so c.cc a) A H H' := fun {A} => ⟨fun a o n h => .inl (e a o (fun z => n (by rw [z]; exact cP)) h), fun a h => by
    by_cases z : a = P
    · rw [z, tP']; exact fun z => nomatch z
    · cases w : H a with
      | none => exact absurd w h
      | some o => rw [e a o z w]; exact fun z => nomatch z⟩
  have kM : Ko (Mv c σ env) (An c σ env) H H' := k.mono (fun a z => .inl z) fun _ z => z
  have kA : Ko (Av c σ env) (An c σ env) H H' := kM.mono (Mv.av S.sO) fun _ z => z
  refine ⟨⟨⟨S.base.trans k, S.lkb, S.sO, fun a h => (k (A := fun _ => True)).2 a (S.dom a h), ?_, t⟩, S.len, S.uniq, fun i d h => ?_, fun i d h => ?_⟩, kM⟩
  · have h0 := S.stt.1
    revert h0
    unfold St0
    cases c.so with
    | none => exact fun _ => trivial
    | some s =>
      rintro ⟨ns, n, l, m, S4⟩
      have sP : s ≠ P := fun z => by have := S4.st; rw [z, tP] at this; cases this
      refine ⟨ns, n, l, m, S4.ne, ?_, S4.len, e _ _ sP S4.st⟩
      rcases S4.cs with (h | ⟨o, h⟩) | h
      · exact .inl (.inl (e _ _ (fun z => by rw [z, tP] at h; cases h) h))
      · exact .inl (.inr ⟨o, e _ _ (fun z => by rw [z, tP] at h; cases h) h⟩)
      · exact .inr h
  · obtain ⟨x, h1, h2⟩ := S.tree i d h
    exact ⟨x, h1, h2.keep kA⟩
  · obtain ⟨x, h1, h2, h3, h4⟩ := S.own i d h
    refine ⟨x, h1, h2, h3, h4.keep kA ?_⟩
    obtain ⟨o, ho, n1, _⟩ := h4.pl
    rw [ho]
    exact e _ _ (fun z => by rw [z, tP] at ho; exact n1 ps (Option.some.inj ho).symm) ho
def xeL (L : List (Addr × Str × Str)) (Pd : Dt → Prop) : Addr → List (Str × Dt) → Prop := fun C fs => ∃ (i : Nat) (y tag : Str) (x : Dt), L[i]? = some (C, y, tag) ∧ fs = [(y, x)] ∧ Pd (.tup [.str tag, x])
theorem et_lam {P : Addr} {q : Str} {L : List (Addr × Str × Str)} {t : XK → TE} {Pd : Dt → List Sl → Prop} (hT : g.T = [(P, q)]) (hL : ∀ p ∈ L, p.2.2.length ≤ Zz)
    (h : ∀ E : XK, Et ⟨g.K, E, xeL L fun d => Pd d env, g.lk, []⟩ (env.map Sl.hid) (t E) fun d _ => Pd (.tup [.str "told", d]) env) : Et g env (tLamP P g.T (TTr L) t) Pd := fun c Lc σ H S Q q => by
  have eT : c.cc.T = g.T := by
    rcases Lc.2.2 with z | z
    · rw [hT] at z; cases z
    · exact z
  refine ⟨by rw [← eT]; exact S.stt.2, fun H1 e1 t1 => ?_⟩
  obtain ⟨S1, k1⟩ := S.extP (P := P) (by rw [eT, hT]; exact List.mem_singleton.mpr rfl) e1 (by rw [eT]; exact t1)
  have back : ∀ {H' : Hp} {x : V} {d : Dt} {tag : Str} {tt : Addr}, tag.length ≤ Zz → Hb g.K ⟨H1, c.so, c.cc, Av c σ env, g.lk, g.lk⟩ H' → Rv c.so (Av c σ env) H' x d → Pd (.tup [.str tag, d]) env → H' tt = none → Q (.ref tt) (upd H' tt (.tup [.str tag, x])) := fun {H' x d tag tt} hz hb r p ht => by
    obtain ⟨S2, k2⟩ := S1.call (lk := g.lk) (by rw [Lc.1]; exact id) hb
    exact q _ _ env _ p (S2.ex (Ex.new ht)) Le.refl (k1.trans (k2.trans (Ko.ex (Ex.new ht)))) (new_tup S2.lk_av ht (Rvs.cons (.str hz) (Rvs.cons r Rvs.nil)) (by show 2 ≤ Zz; decide))
  refine h _ ⟨H1, c.so, c.cc, Av c σ env, g.lk, g.lk⟩ ⟨rfl, ?_, .inl rfl⟩ σ H1 (S1.hid) _ fun x d env' H2 p S2 l2 k2 r2 => ⟨by show 2 ≤ sizeLine; decide, fun tt ht => back (by decide) S2.toHb (r2.mono fun a z => .inl z) p ht⟩
  rintro C fs ⟨i, y, tag, x, hi, rfl, p⟩ H' d xs hb h1 h2 h3
  match xs, h2 with
  | [(y', v)], h2 =>
    have ey : y' = y := by simpa using h2
    subst ey
    exact ⟨i, C, y', tag, d, v, hi, rfl, rfl, h1, fun tt ht => back (hL _ (List.mem_of_getElem? hi)) hb (h3 0 y' v y' x rfl rfl) p ht⟩
end
end Wv
/-! comprehensions with two names as their target -/
namespace Wv
open PySem L2 Evl
section
variable {g : Gx} {c : Cc} {σ : L2.St} {H H1 H2 H' : Hp} {env e1 : List Sl} {d d1 d2 : Dt} {x : V} {te : TE} {tt : TT} {P : Dt → List Sl → Prop}
theorem set2_av {j1 j2 : Nat} {y1 y2 : V} (a : Addr) (h : Av c ((σ.set j1 (some y1)).set j2 (some y2)) ((env.set j1 (.v d1)).set j2 (.v d2)) a) : Av c σ env a := av_set_v a (av_set_v a h)
theorem Cq.step2 {D : Addr} {acc : Dt} {j1 j2 : Nat} {H3 : Hp} {y1 y2 : V} (q : Cq g c σ e1 H1 D acc H') (S1 : Sv g.K c H1 σ e1) (hD : H1 D = none) (hj1 : nOwn e1 j1) (hj2 : nOwn e1 j2) (Sa : Sv g.K (c.add D) H' (σ.set j1 (some y1)) (e1.set j1 (.v d1))) (Sb : Sv g.K (c.add D) H' ((σ.set j1 (some y1)).set j2 (some y2)) ((e1.set j1 (.v d1)).set j2 (.v d2)))
    (S3 : Sv g.K (c.add D) H3 ((σ.set j1 (some y1)).set j2 (some y2)) ((e1.set j1 (.v d1)).set j2 (.v d2))) (k3 : Ko (Mv (c.add D) ((σ.set j1 (some y1)).set j2 (some y2)) ((e1.set j1 (.v d1)).set j2 (.v d2))) (An (c.add D) ((σ.set j1 (some y1)).set j2 (some y2)) ((e1.set j1 (.v d1)).set j2 (.v d2))) H' H3) :
    Cq g c σ e1 H1 D acc H3 ∧ Sv g.K (c.add D) H3 (σ.set j1 (some y1)) (e1.set j1 (.v d1)) := by
  have hDs : ∀ s, Chg c.so c.cc s → D ≠ s := fun s z q => S1.dom s (S1.sO s z).1 (by rw [← q]; exact hD)
  have nD : ¬ Mv (c.add D) ((σ.set j1 (some y1)).set j2 (some y2)) ((e1.set j1 (.v d1)).set j2 (.v d2)) D := fun z => by
    rcases z with z | z
    · exact hDs D z rfl
    · obtain ⟨i', d', z1, z2⟩ := z
      obtain ⟨b, w1, _, w3, _⟩ := Sb.own i' d' z1
      rw [z2] at w1
      cases w1
      exact w3 (.inr rfl)
  have hj2' : nOwn (e1.set j1 (.v d1)) j2 := fun d0 z => by
    rcases Sl.get_set z with ⟨_, z⟩ | ⟨_, z⟩
    · cases z
    · exact hj2 d0 z
  have own1 : ∀ a, Ow (σ.set j1 (some y1)) (e1.set j1 (.v d1)) a → Ow ((σ.set j1 (some y1)).set j2 (some y2)) ((e1.set j1 (.v d1)).set j2 (.v d2)) a := fun a ⟨i, e, z1, z2⟩ => by
    have n : i ≠ j2 := fun z => hj2' e (by rw [← z]; exact z1)
    exact ⟨i, e, by rw [List.getElem?_set, if_neg (Ne.symm n)]; exact z1, by rw [List.getElem?_set, if_neg (Ne.symm n)]; exact z2⟩
  have own0 : ∀ a, Ow σ e1 a → Ow (σ.set j1 (some y1)) (e1.set j1 (.v d1)) a := fun a ⟨i, e, z1, z2⟩ => by
    have n : i ≠ j1 := fun z => hj1 e (by rw [← z]; exact z1)
    exact ⟨i, e, by rw [List.getElem?_set, if_neg (Ne.symm n)]; exact z1, by rw [List.getElem?_set, if_neg (Ne.symm n)]; exact z2⟩
  have k2 : Ko (Mv (c.add D) (σ.set j1 (some y1)) (e1.set j1 (.v d1))) (An (c.add D) (σ.set j1 (some y1)) (e1.set j1 (.v d1))) H' H3 := k3.mono (fun a z => mv_set_v a z) fun a z => z.imp id (fun z => z.imp id (own1 a))
  have k1 : Ko (Mv (c.add D) σ e1) (An (c.add D) σ e1) H' H3 := k2.mono (fun a z => mv_set_v a z) fun a z => z.imp id (fun z => z.imp id (own0 a))
  have S2 := Sa.unset hj2' S3 k2
  have D3 : H3 D = H' D := k3.same nD (.inr (.inl (.inr rfl))) q.ol.some
  exact ⟨⟨q.sv.unset hj1 S2 k1, q.kf.trans (k1.mono (fun a z => z) fun a z => z.imp id fun z => Av.add.mpr (.inl z)), q.ol.keep (k1.mono (Mv.av q.sv.sO) fun _ z => z) D3⟩, S2⟩
theorem Cq.out2 {so : Option Addr} {D : Addr} {j1 j2 : Nat} {y1 y2 : V} {t : Dt} {x' : V} (hj1 : nOwn e1 j1) (hj2 : nOwn e1 j2) (r : Rv so (Av (c.add D) ((σ.set j1 (some y1)).set j2 (some y2)) ((e1.set j1 (.v d1)).set j2 (.v d2))) H x' t) : Rv so (Av (c.add D) σ e1) H x' t := by
  refine Cq.out hj1 (Cq.out (fun d0 z => ?_) r)
  rcases Sl.get_set z with ⟨_, z⟩ | ⟨_, z⟩
  · cases z
  · exact hj2 d0 z
theorem wipe2 {j1 j2 : Nat} (hne : j1 ≠ j2) {y1 y2 : V} : ((wipe σ [j1, j2]).set j1 (some y1)).set j2 (some y2) = (σ.set j1 (some y1)).set j2 (some y2) ∧ wipe ((σ.set j1 (some y1)).set j2 (some y2)) [j1, j2] = wipe σ [j1, j2] := by
  have e : ∀ τ : L2.St, wipe τ [j1, j2] = (τ.set j2 none).set j1 none := fun _ => rfl
  refine ⟨?_, ?_⟩
  · rw [e, List.set_set, List.set_comm _ _ (Ne.symm hne), List.set_set]
  · rw [e, e, List.set_set, List.set_comm _ _ hne, List.set_set]
theorem ef_lc2 {wi : TI} {j1 j2 : Nat} (hne : j1 ≠ j2) (h : Ei g env wi fun ds e1 => nOwn e1 j1 ∧ nOwn e1 j2 ∧ ∃ I : Nat → List Dt → Prop, I 0 [] ∧ (∀ i d acc, ds[i]? = some d → I i acc → ∃ d1 d2, d = .tup [d1, d2] ∧ Eb g ((e1.set j1 (.v d1)).set j2 (.v d2)) tt fun b e2 => e2 = (e1.set j1 (.v d1)).set j2 (.v d2) ∧
    if b = true then Et g ((e1.set j1 (.v d1)).set j2 (.v d2)) te fun t e3 => e3 = (e1.set j1 (.v d1)).set j2 (.v d2) ∧ I (i + 1) (acc ++ [t]) else I (i + 1) acc) ∧ ∀ acc, I ds.length acc → P (.lst acc) e1) : Ef g env (tLc wi (gTup g.K 2 (gCons (gName j1) (gCons (gName j2) gNil))) tt te [j1, j2]) P := fun c L σ H S Q q => by
  refine h c L σ H S _ fun J ds e1 H1 ⟨hj1, hj2, I, i0, hs, hd⟩ S1 l1 k1 w D hD => ?_
  refine ⟨fun i m H' => m = ds.length - i ∧ i ≤ ds.length ∧ ∃ acc, acc.length ≤ i ∧ I i acc ∧ Cq g c σ e1 H1 D (.lst acc) H',
    ⟨_, rfl, Nat.zero_le _, [], Nat.le_refl _, i0, Cq.start S1 hD ⟨[], upd_same, rfl, Nat.zero_le _, fun i x d z => by simp at z⟩⟩, ?_⟩
  rintro i m H' ⟨rfl, hi, acc, hal, hI, C'⟩
  have ka := C'.kf.mono (A' := Av c σ e1) (Mv.av S1.sO) fun _ z => .inr z
  by_cases hlt : i < ds.length
  · refine .inr ⟨w.go i H' hlt ka, fun H2 => ∃ acc, acc.length ≤ i + 1 ∧ I (i + 1) acc ∧ Cq g c σ e1 H1 D (.lst acc) H2, fun H2 z => ⟨ds.length - (i + 1), by omega, rfl, hlt, z⟩, fun x H'' y => ?_⟩
    obtain ⟨e, d, ed, rd⟩ := w.yld (Av (c.add D) σ e1) i H' x H'' hlt ka (fun a z => by
      rcases Av.add.mp z with z | z
      · exact .inl z
      · exact .inr (by rw [z]; exact hD)) C'.sv.lk_av y
    obtain ⟨d1, d2, rfl, hs⟩ := hs i d acc ed hI
    cases rd with
    | @tup a xs _ ho h1 hl hz he =>
      obtain ⟨x1, x2, rfl⟩ : ∃ x1 x2, xs = [x1, x2] := by
        match xs, hl with
        | [x1, x2], _ => exact ⟨x1, x2, rfl⟩
      have r1 := he 0 x1 d1 rfl rfl
      have r2 := he 1 x2 d2 rfl rfl
      obtain ⟨C2, Sa⟩ := C'.into (j := j1) e r1
      have Sb : Sv g.K (c.add D) H'' ((σ.set j1 (some x1)).set j2 (some x2)) ((e1.set j1 (.v d1)).set j2 (.v d2)) := Sa.set_v (r2.mono av_set_v)
      refine ⟨a, _, rfl, .inl (.inl h1), rfl, x1, [x2], rfl, x2, [], rfl, rfl, ?_⟩
      rw [(wipe2 hne).1]
      refine ⟨(wipe2 hne).2, ?_⟩
      refine hs (c.add D) (L.add S1.sO) _ H'' Sb _ fun b e2 H3 ⟨e0, pb⟩ S3 l3 k3 => ?_
      subst e0
      obtain ⟨C3, Sa3⟩ := C2.step2 S1 hD hj1 hj2 Sa Sb S3 k3
      cases b with
      | false => exact ⟨acc, Nat.le_succ_of_le hal, pb, C3⟩
      | true =>
        refine pb (c.add D) (L.add S1.sO) _ H3 S3 _ fun y t e3 H4 ⟨e0, pt⟩ S4 l4 k4 r4 => ?_
        subst e0
        obtain ⟨C4, _⟩ := C3.step2 S1 hD hj1 hj2 Sa3 S3 S4 k4
        obtain ⟨xs, z1, z2, z3, z4⟩ := C4.ol
        have hl := w.len
        exact ⟨xs, z1, Nat.lt_of_lt_of_le (show xs.length < Zz by omega) (by decide), acc ++ [t], by simp; omega, pt, C4.wr_list S1 hD z1 (by omega) (Cq.out2 hj1 hj2 r4)⟩
  · have : i = ds.length := by omega
    subst this
    exact .inl ⟨w.stop H' ka, q D (.lst acc) e1 H' (hd acc hI) C'.sv l1 (k1.trans (C'.kf.le l1)) (k1.back hD) C'.ol⟩
theorem ef_map2 {wi : TI} {j1 j2 : Nat} (hne : j1 ≠ j2) (p : Dt → Bool) (f : Dt → Dt) (h : Ei g env wi fun ds e1 => nOwn e1 j1 ∧ nOwn e1 j2 ∧ (∀ d ∈ ds, ∃ d1 d2, d = .tup [d1, d2] ∧ Eb g ((e1.set j1 (.v d1)).set j2 (.v d2)) tt fun b e2 => e2 = (e1.set j1 (.v d1)).set j2 (.v d2) ∧ b = p d ∧
    (p d = true → Et g ((e1.set j1 (.v d1)).set j2 (.v d2)) te fun t e3 => e3 = (e1.set j1 (.v d1)).set j2 (.v d2) ∧ t = f d)) ∧ P (.lst ((ds.filter p).map f)) e1) : Ef g env (tLc wi (gTup g.K 2 (gCons (gName j1) (gCons (gName j2) gNil))) tt te [j1, j2]) P := ef_lc2 hne fun c L σ H S R q =>
  h c L σ H S R fun J ds e1 H1 ⟨h1, h1', h2, h4⟩ => q J ds e1 H1 ⟨h1, h1', fun i acc => acc = ((ds.take i).filter p).map f, rfl, fun i d acc hi hI => by
    have hm := List.mem_of_getElem? hi
    obtain ⟨d1, d2, ed, h2⟩ := h2 d hm
    refine ⟨d1, d2, ed, fun c L σ H S Q q => h2 c L σ H S Q fun b e2 H1 ⟨z1, z2, z3⟩ => q b e2 H1 ⟨z1, ?_⟩⟩
    have ht : ds.take (i + 1) = ds.take i ++ [d] := by
      rw [List.take_add_one, hi]; rfl
    subst z2
    cases hp : p d with
    | true =>
      refine iteT (fun c L σ H S Q q => z3 hp c L σ H S Q fun x t e3 H1 ⟨w1, w2⟩ => q x t e3 H1 ⟨w1, ?_⟩)
      show _ = ((ds.take (i + 1)).filter p).map f
      rw [hI, w2, ht, List.filter_append, List.map_append, List.filter_cons_of_pos hp]
      rfl
    | false =>
      refine iteF ?_
      show _ = ((ds.take (i + 1)).filter p).map f
      rw [hI, ht, List.filter_append, List.filter_cons_of_neg (by rw [hp]; intro z; cases z), List.filter_nil, List.append_nil], fun acc hI => by
    have hI : acc = ((ds.take ds.length).filter p).map f := hI
    rw [hI, List.take_length]
    exact h4⟩
theorem ef_map2Y {wi : TI} {j1 j2 : Nat} (hne : j1 ≠ j2) (f : Dt → Dt) (h : Ei g env wi fun ds e1 => nOwn e1 j1 ∧ nOwn e1 j2 ∧ (∀ d ∈ ds, ∃ d1 d2, d = .tup [d1, d2] ∧ Et g ((e1.set j1 (.v d1)).set j2 (.v d2)) te fun t e3 => e3 = (e1.set j1 (.v d1)).set j2 (.v d2) ∧ t = f d) ∧ P (.lst (ds.map f)) e1) : Ef g env (tLc wi (gTup g.K 2 (gCons (gName j1) (gCons (gName j2) gNil))) tYes te [j1, j2]) P :=
  ef_map2 hne (fun _ => true) f fun c L σ H S R q => h c L σ H S R fun J ds e1 H1 ⟨h1, h1', h2, h3⟩ => q J ds e1 H1 ⟨h1, h1', fun d hd => by
    obtain ⟨d1, d2, ed, h2⟩ := h2 d hd
    exact ⟨d1, d2, ed, eb_yes ⟨rfl, rfl, fun _ => h2⟩⟩, by rw [List.filter_eq_self.mpr fun _ _ => rfl]; exact h3⟩
theorem et_all2Y {wi : TI} {j1 j2 : Nat} (hne : j1 ≠ j2) (f : Dt → Bool) (h : Ei g env wi fun ds e1 => nOwn e1 j1 ∧ nOwn e1 j2 ∧ (∀ d ∈ ds, ∃ d1 d2, d = .tup [d1, d2] ∧ Et g ((e1.set j1 (.v d1)).set j2 (.v d2)) te fun t e3 => e3 = (e1.set j1 (.v d1)).set j2 (.v d2) ∧ t = .bl (f d)) ∧ P (.bl (ds.all f)) e1) :
    Et g env (tCB (rAll g.K) (tCons (tLc wi (gTup g.K 2 (gCons (gName j1) (gCons (gName j2) gNil))) tYes te [j1, j2]) tNil)) P :=
  et_cb rcl_all (ea_cons (Ef.et (ef_map2Y hne (fun d => .bl (f d)) fun c L σ H S R q => h c L σ H S R fun J ds e1 H1 ⟨h1, h1', h2, h3⟩ => q J ds e1 H1 ⟨h1, h1', h2, ea_nil ⟨ds.map f, by rw [List.map_map]; rfl, by rw [List.all_map]; exact h3⟩⟩)))
end
section
variable {g : Gx} {env : List Sl} {so : Option Addr} {A : Addr → Prop} {H1 : Hp} {K : PySem.W.Frag} {PL : List Dt → List Sl → Prop}
theorem wk_zipT {a b : Addr} {ds es : List Dt} (r1 : Rv so A H1 (.ref a) (.tup ds)) (r2 : Rv so A H1 (.ref b) (.tup es)) : Wk so A (RZ.ItzT K a b) (zipD ds es) H1 := by
  obtain ⟨a', xs, e1, ho1, h1, rs1, hz1⟩ := tup_rv r1
  cases e1
  obtain ⟨b', ys, e2, ho2, h2, rs2, hz2⟩ := tup_rv r2
  cases e2
  have sq1 : ∀ H', Ko A A H1 H' → SqT K H' a xs := fun H' k => .inl (.inl (k.keep1 ho1 h1 fun _ z => nomatch z))
  have sq2 : ∀ H', Ko A A H1 H' → SqT K H' b ys := fun H' k => .inl (.inl (k.keep1 ho2 h2 fun _ z => nomatch z))
  have hl : (zipD ds es).length = min ds.length es.length := by unfold zipD; rw [List.length_zipWith]
  have l1 := rs1.1
  have l2 := rs2.1
  refine ⟨by omega, fun i H' hi k => ⟨xs, ys, xs[i]'(by omega), ys[i]'(by omega), sq1 H' k, sq2 H' k, by simp, by simp⟩, fun H' k => ⟨xs, ys, sq1 H' k, sq2 H' k, by omega⟩, fun O' i H' x H'' hi k n1 n2 ⟨T, u, v, ex, hT, e, y1, y2⟩ => ?_⟩
  subst ex e
  have hi1 : i < ds.length := by omega
  have hi2 : i < es.length := by omega
  have hu := y1 xs (sq1 H' k)
  have hv := y2 ys (sq2 H' k)
  refine ⟨Ex.new hT, .tup [ds[i], es[i]], by unfold zipD; rw [List.getElem?_zipWith]; simp [hi1, hi2], ?_⟩
  have ru : Rv so O' H' u ds[i] := (rs1.2 i u ds[i] hu (by simp [hi1])).later k n1
  have rv : Rv so O' H' v es[i] := (rs2.2 i v es[i] hv (by simp [hi2])).later k n1
  exact new_tup n2 hT (Rvs.cons ru (Rvs.cons rv Rvs.nil)) (Nat.le_of_ble_eq_true rfl)
theorem ei_zipT {ta : TA} (h : Ea g env ta fun ds e => ∃ xs ys, ds = [.tup xs, .tup ys] ∧ PL (zipD xs ys) e) : Ei g env (RZ.iZipA g.K ta) PL := fun c L σ H S R q =>
  h c L σ H S _ fun vs ds e H1 ⟨xs, ys, e0, p⟩ S1 l k r => by
    subst e0
    obtain ⟨x, y, rfl, r1, r2⟩ := two_rv r
    obtain ⟨a, us, rfl, _, h1, _⟩ := tup_rv r1
    obtain ⟨b, ws, rfl, _, h2, _⟩ := tup_rv r2
    exact ⟨a, b, us, ws, rfl, .inr ⟨.inl (.inl h1), .inl (.inl h2), q _ _ e H1 p S1 l k (wk_zipT r1 r2)⟩⟩
end
section
variable {g : Gx} {env : List Sl} {te : TE} {P : Dt → List Sl → Prop} {K : PySem.W.Frag}
def fIsB : Dt → Dt → (Dt → Prop) → Prop
  | .bl a, .bl b, k => k (.bl (decide (a = b)))
  | _, _, _ => False
theorem rop_isB : Rop K rIsB fIsB := fun so O H x y d e hO r1 r2 PD f Q q => by
  unfold fIsB at f
  split at f
  · cases r1; cases r2
    rename_i a b
    first
    | exact ⟨b, rfl, q _ _ H f (Ex.refl H) (by
        rw [show decide (V.bl a = V.bl b) = decide (a = b) from decide_eq_decide.mpr ⟨V.bl.inj, fun h => by rw [h]⟩]
        exact .bl _)⟩
    | exact ⟨a, b, rfl, rfl, q _ _ H f (Ex.refl H) (.bl _)⟩
  · exact f.elim
def isBILT : Dt → Bool | .bl _ => true | .int _ => true | .lst _ => true | .tup _ => true | _ => false
theorem et_isBILT (h : Et g env te fun d e => (tyD d).isSome = true ∧ P (.bl (isBILT d)) e) : Et g env (tCB (rIsU g.K) (tCons te (tCons (tTup (tCons (tC (.ty "bool")) (tCons (tC (.ty "int")) (tCons (tC (.ty "list")) (tCons (tC (.ty "tuple")) tNil))))) tNil))) P :=
  et_isT ["bool", "int", "list", "tuple"] isBILT (by decide) (iskT (by decide +kernel) (fun _ => (by decide +kernel : kitBs "bool" ["bool", "int", "list", "tuple"] = some true)) (fun _ => (by decide +kernel : kitBs "int" ["bool", "int", "list", "tuple"] = some true)) (fun _ => (by decide +kernel : kitBs "str" ["bool", "int", "list", "tuple"] = some false))
    (fun _ => (by decide +kernel : kitBs "list" ["bool", "int", "list", "tuple"] = some true)) (fun _ => (by decide +kernel : kitBs "tuple" ["bool", "int", "list", "tuple"] = some true)) fun _ => (by decide +kernel : kitBs "dict" ["bool", "int", "list", "tuple"] = some false)) h
end
end Wv
/-! a dict's values: walked, made a list -/
namespace L2
open PySem PySem.Spec PyProof.Rows
section
variable {X : Cx} {o : Expr} {p pos apos mpos : Pos} {td : TE} {tg : Expr}
/-- for x in d.values(): the dict is locked from then on -/
def iValsU (td : TE) : TI := fun σ H R => td σ H fun x H1 =>
  (∃ d od kvs, x = .ref d ∧ H1 d = some (.frz od (.dK kvs)) ∧ R (Itd d od kvs) H1) ∨ ∃ d kvs, x = .ref d ∧ H1 d = some (.dK kvs) ∧ ∀ od, R (Itd d od kvs) (upd H1 d (.frz od (.dK kvs)))
theorem pi_valsU {e : Expr} {cpos : Pos} (he : PE X e td) (hbase : attributeBase e "values" X.env (eval e X.env) = eval e X.env := by rfl) (hline : (apos.endLine == cpos.line) = true := by rfl) : PI X tg (.Call (.Attribute e "values" apos) [] [] cpos) (iValsU td) := by
  refine ⟨fun pins s σ H R I h => ?_⟩
  refine wpAny_Call_method (T := "dict") (id := "dict.values") hbase rfl hline F.plainAttrs_dict F.slot_dict_values F.type_dict_values (thn (he.run pins s σ H _ I h) fun u s1 ⟨x, H1, I1, rx, q1⟩ => ?_)
  have key : ∃ d od kvs H2, u = .ref d ∧ Inv X pins σ H2 s1 ∧ H2 d = some (.frz od (.dK kvs)) ∧ R (Itd d od kvs) H2 := by
    rcases q1 with ⟨d, od, kvs, ex, hd, q⟩ | ⟨d, kvs, ex, hd, q⟩
    · subst ex
      exact ⟨d, od, kvs, H1, rx, I1, hd, q⟩
    · subst ex
      obtain ⟨od, I2⟩ := I1.lock hd trivial
      exact ⟨d, od, kvs, _, rx, I2, upd_same, q od⟩
  obtain ⟨d, od, kvs, H2, rfl, I1, hd, q⟩ := key
  obtain ⟨hs, hgd, hx, es, ep, vs, hdt, hsz, kv, hm⟩ := I1.frzK hd
  have hl : kvs.length = vs.length := Paired.length kv
  refine ⟨hm.dictOf.typeIs, hm.dictOf.mapOf.noDict, ?_⟩
  have I2 : Inv X pins σ H2 { s1 with heap := s1.heap.push { cls := .type "dict_values", data := .fields #[.ref d] } } := I1.kept (t' := s1.toks) fun b ob q => Heap.get?_push_of_some _ q
  have fin : wpAny (model X.prog X.w) X.A (pyIter (.ref s1.heap.objs.size)) (PIE X pins σ tg R) X.xe { s1 with heap := s1.heap.push { cls := .type "dict_values", data := .fields #[.ref d] } } := by
    refine wpAny_pyIter_values (d := d) (knd := mixKind X.prog X.w) ⟨_, Heap.get?_push_size _ rfl, rfl, rfl⟩ (hm.push _) (pi_one (tk := s1.toks) I2 _ (turn_vals _ hdt) ⟨_, Heap.get?_push_size _ rfl, rfl, ?_⟩ q)
    rw [hl] <;> rfl
  show wpAny _ _ (callWith cpos (.builtin "dict.values") [.ref d] [] []) _ X.xe s1
  exact method_meetsIn F.slot_dict_values F.entry_dict_values rfl (PySem.evalArgs_none ⟨rfl, hm.dictOf.typeIs, F.args_dict_values_1 _, _, meets_dict_values (mixKind X.prog X.w) d hs, ⟨vs, hm.dictOf⟩, fin⟩)
/-- d.values() -/
def tVals (td : TE) : TE := fun σ H Q => td σ H fun x H1 => ∃ a kvs, x = V.ref a ∧ Rd H1 a (.dK kvs) ∧ ∀ p, H1 p = none → Q (.ref p) (upd H1 p (viewO "dict_values" p a))
theorem pe_vals (hd : PE X o td) (hbase : attributeBase o "values" X.env (eval o X.env) = eval o X.env := by rfl) (hline : (apos.endLine == mpos.line) = true := by rfl) : PE X (.Call (.Attribute o "values" apos) [] [] mpos) (tVals td) := by
  refine ⟨fun pins s σ H Q I h => ?_⟩
  refine wpAny_Call_method0_late hbase hline (thn (hd.run pins s σ H _ I h) fun v s1 ⟨x, H1, I1, r1, a, kvs, ex, ha, q⟩ => ?_)
  subst ex
  obtain rfl : v = Value.ref a := r1
  obtain ⟨_, hsys, vs, rel, dof⟩ := dk_rd I1.hok ha
  obtain ⟨ep, dat⟩ := dof.dictAt
  obtain ⟨ob, es, ho, ex, hdat, hko, hpr, hnd⟩ := dat
  refine ⟨"dict", "dict.values", F.plainAttrs_dict, F.slot_dict_values, F.type_dict_values, ⟨ob, ho, ex.1⟩, fun b e => ?_, Calls.callWith_builtin rfl (PySem.evalArgs_none ?_)⟩
  · cases e
    exact ⟨ob, ho, ex.2.1⟩
  refine call_meetsIn F.slot_dict_values ⟨ob, ho, ex.1⟩ F.entry_dict_values (F.args_dict_values_1 _) (meets_dict_values (mixKind X.prog X.w) a hsys) ⟨⟨vs, dof⟩, ?_⟩
  exact ⟨.ref s1.heap.objs.size, _, I1.laid (t' := s1.toks) (fun b o q => Heap.get?_push_of_some _ q) (Nat.le_refl _) (viewO_ok (Heap.get?_push_size _ rfl)), rfl, q _ (I1.hok.fresh (Nat.le_refl _))⟩
/-- list of such -/
def rListV : List V → Hp → VK → Prop := fun xs H Q => ∃ p a kvs, xs = [.ref p] ∧ H p = some (viewO "dict_values" p a) ∧ Rd H a (.dK kvs) ∧ ∀ q, H q = none → Q (.ref q) (upd H q (.lst (kvs.map (·.2))))
theorem call_list_vals (hc : X.calm = true) : CallR X (.type "list") rListV := by
  intro pins s σ H xs us Q I r h
  obtain ⟨p, a, kvs, e, hp, hk, q⟩ := h
  subst e
  obtain ⟨u, eu, rx⟩ := vals1 r
  subst eu
  obtain rfl : u = Value.ref p := rx
  obtain ⟨z, lo, vs, rk, hd⟩ := dk_rd I.hok hk
  obtain ⟨ep, hat⟩ := hd.dictAt
  have hl : kvs.length = vs.length := Paired.length rk
  have hv : s.heap.get? p = some (DSub.viewOb "dict_values" a) := (show ObjOk X.prog X.w H s.heap p (viewO "dict_values" p a) from I.hok p _ hp).1
  refine PySem.W.kdl_call (PySem.W.kdl_values (knd := mixKind X.prog X.w) (kvs := vs) (ep := ep)) (I.ok.hd hc) ⟨⟨_, hv, rfl, rfl⟩, hat⟩ (by rw [← hl]; exact z) fun h' tk acc' c' hkeep hS hacc => ?_
  refine ⟨.ref s.heap.objs.size, upd H s.heap.objs.size (.lst (kvs.map (·.2))), I.laid hkeep (Nat.le_refl _) (show ObjOk X.prog X.w _ _ _ (.lst (kvs.map (·.2))) from ⟨?_, acc'.toList, c', ?_, ?_⟩), rfl, q _ (I.hok.fresh (Nat.le_refl _))⟩
  · rw [List.length_map]; exact z
  · have el : acc'.toList.length = acc'.size := by simp
    refine vals_of_at (by rw [List.length_map, el, hacc.1, hl]) fun j x w h1 h2 => ?_
    obtain ⟨k, hky⟩ := hacc.2 j w (by rw [← Array.getElem?_toList]; exact h2)
    obtain ⟨x', h3, h4⟩ := KV.at' rk hky
    rw [List.getElem?_map, h3] at h1
    cases h1
    exact h4
  · rw [Array.toArray_toList]; exact hS
end
end L2
namespace Wv
open PySem PySem.Spec PyProof.Rows L2 Evl
section
variable {g : Gx} {env : List Sl} {te : TE} {PL : List Dt → List Sl → Prop} {P : Dt → List Sl → Prop} {so : Option Addr} {A : Addr → Prop} {H1 : Hp}
theorem wk_vals {a : Addr} {od : Obj} {xs : List (Key × V)} {kvs : List (Key × Dt)} (ho : ¬ A a) (h : H1 a = some (.frz od (.dK xs))) (hk : xs.map (·.1) = kvs.map (·.1)) (hz : kvs.length ≤ Zz) (he : ∀ (i : Nat) k x k' d, xs[i]? = some (k, x) → kvs[i]? = some (k', d) → Rv so A H1 x d) :
    Wk so A (Itd a od xs) (kvs.map (·.2)) H1 := by
  have hl : xs.length = kvs.length := by have := congrArg List.length hk; simpa using this
  have at_ : ∀ H', Ko A A H1 H' → H' a = some (.frz od (.dK xs)) := fun H' k => k.keep1 ho h fun _ z => nomatch z
  refine ⟨by rw [List.length_map]; exact hz, fun i H' hi k => ⟨at_ H' k, by rw [List.length_map] at hi; omega⟩, fun H' k => ⟨at_ H' k, by rw [List.length_map]; omega⟩, fun O' i H' x H'' hi k h1 h2 ⟨e, k', hkv⟩ => ?_⟩
  subst e
  have hi2 : i < kvs.length := by rw [List.length_map] at hi; exact hi
  refine ⟨Ex.refl _, kvs[i].2, by rw [List.getElem?_map, List.getElem?_eq_getElem hi2]; rfl, ?_⟩
  exact (he i k' x kvs[i].1 kvs[i].2 hkv (by rw [List.getElem?_eq_getElem hi2])).later k h1
theorem ei_vals (hgl : g.lk = true) (h : Et g env te fun d e => ∃ kvs, d = .dct kvs ∧ PL (kvs.map (·.2)) e) : Ei g env (iValsU te) PL := fun c L σ H S R q =>
  have hl : c.lk = true := L.1.symm.trans hgl
  h c L σ H S _ fun x d e H1 ⟨kvs, ed, p⟩ S1 l k r => by
    subst ed
    obtain ⟨a, xs, rfl, ho, h0, tb, hz⟩ := dct_rv r
    rcases h0 with h0 | ⟨od, h0⟩
    · exact .inr ⟨a, xs, rfl, h0, fun od => q _ _ e _ p (S1.lock hl ho h0).1 l (k.trans ((S1.lock hl ho h0).2.le l)) (wk_vals ho upd_same tb.1 hz fun i k1 x k2 d h1 h2 => (tb.2 i k1 x k2 d h1 h2).keep ((S1.lock hl ho h0).2.mono (Mv.av S1.sO) fun _ z => z))⟩
    · exact .inl ⟨a, od, xs, rfl, h0, q _ _ e H1 p S1 l k (wk_vals ho h0 tb.1 hz tb.2)⟩
theorem lv_core {Q : VK} {xs : List (Key × V)} {kvs : List (Key × Dt)} {c : Cc} {σ : L2.St} {H : Hp} {e : List Sl} {a : Addr} (S1 : Sv g.K c H1 σ e) (l : Le e env) (k : Ko (Mv c σ env) (An c σ env) H H1) (h0 : Rd H1 a (.dK xs)) (tb : Tb c.so (Av c σ e) H1 xs kvs) (hz : kvs.length ≤ Zz) (p : P (.lst (kvs.map (·.2))) e)
    (q : ∀ a d env' H1, P d env' → Sv g.K (c.add a) H1 σ env' → Le env' env → Ko (Mv c σ env) (An c σ env) H H1 → H a = none → Ol c.so (Av (c.add a) σ env') H1 a d → Q (.ref a) H1) :
    ∀ p0, H1 p0 = none → rListV [.ref p0] (upd H1 p0 (viewO "dict_values" p0 a)) Q := fun v hv => by
  have hd : Rd (upd H1 v (viewO "dict_values" v a)) a (.dK xs) := by
    rcases h0 with h | ⟨o, h⟩
    · exact .inl (Ex.new hv _ _ h)
    · exact .inr ⟨o, Ex.new hv _ _ h⟩
  have hl : xs.length = kvs.length := by have := congrArg List.length tb.1; simpa using this
  have S2 := S1.ex (Ex.new (o := viewO "dict_values" v a) hv)
  refine ⟨v, a, xs, rfl, upd_same, hd, fun w hw => ?_⟩
  refine q w (.lst (kvs.map (·.2))) e _ p (S2.add hw) l ((k.trans (Ko.new hv)).trans (Ko.new hw)) ((k.trans (Ko.new hv)).back hw) ⟨xs.map (·.2), upd_same, by rw [List.length_map, List.length_map, hl], by rw [List.length_map]; exact hz, fun i x d h1 h2 => ?_⟩
  have hi : i < xs.length := by have := (List.getElem?_eq_some_iff.mp h1).1; simpa using this
  have hi2 : i < kvs.length := by omega
  rw [List.getElem?_map, List.getElem?_eq_getElem hi] at h1
  rw [List.getElem?_map, List.getElem?_eq_getElem hi2] at h2
  cases h1
  cases h2
  have r := tb.2 i xs[i].1 xs[i].2 kvs[i].1 kvs[i].2 (by rw [List.getElem?_eq_getElem hi]) (by rw [List.getElem?_eq_getElem hi2])
  exact ((r.ex (Ex.new hv)).avoid fun b z => (Av.add.mp z).imp id fun z => by rw [z]; exact hw).ex (Ex.new hw)
theorem ef_listVals (h : Et g env te fun d e => ∃ kvs, d = .dct kvs ∧ P (.lst (kvs.map (·.2))) e) : Ef g env (tCB rListV (tCons (tVals te) tNil)) P := fun c L σ H S Q q =>
  h c L σ H S _ fun x d e H1 ⟨kvs, ed, p⟩ S1 l k r => by
    subst ed
    obtain ⟨a, xs, rfl, ho, h0, tb, hz⟩ := dct_rv r
    exact ⟨a, xs, rfl, h0, lv_core S1 l k h0 tb hz p q⟩
/-- list(d.values()), d a dict of one's own -/
theorem ef_listValsO {i : Nat} {kvs : List (Key × Dt)} (hi : env[i]? = some (.own (.dct kvs))) (p : P (.lst (kvs.map (·.2))) env) : Ef g env (tCB rListV (tCons (tVals (tVar i)) tNil)) P := fun c L σ H S Q q => by
  obtain ⟨a, h1, _, _, xs, h2, hk, hz, he⟩ := S.own i _ hi
  exact ⟨_, h1, a, xs, rfl, .inl h2, lv_core S Le.refl Ko.refl (.inl h2) ⟨hk, he⟩ hz p q⟩
end
end Wv
/-! [e for a, b in xs for c in b] -/
namespace Wv
open PySem L2 Evl
section
variable {g : Gx} {c : Cc} {σ : L2.St} {H H1 H2 H' : Hp} {env e1 : List Sl} {d d1 d2 : Dt} {x : V} {te : TE} {tt : TT} {P : Dt → List Sl → Prop}
theorem ow_hole {j : Nat} {v : Option V} (h : env[j]? = some .no) : Ow (σ.set j v) env = Ow σ env := by
  funext a
  refine propext ⟨fun ⟨i, e, z1, z2⟩ => ⟨i, e, z1, ?_⟩, fun ⟨i, e, z1, z2⟩ => ⟨i, e, z1, ?_⟩⟩
  · have n : j ≠ i := fun z => by rw [← z, h] at z1; cases z1
    rw [List.getElem?_set, if_neg n] at z2
    exact z2
  · have n : j ≠ i := fun z => by rw [← z, h] at z1; cases z1
    rw [List.getElem?_set, if_neg n]
    exact z2
theorem av_hole {j : Nat} {v : Option V} (h : env[j]? = some .no) : Av c (σ.set j v) env = Av c σ env := by
  unfold Av
  rw [ow_hole h]
theorem an_hole {j : Nat} {v : Option V} (h : env[j]? = some .no) : An c (σ.set j v) env = An c σ env := by
  unfold An
  rw [av_hole h]
theorem mv_hole {j : Nat} {v : Option V} (h : env[j]? = some .no) : Mv c (σ.set j v) env = Mv c σ env := by
  unfold Mv
  rw [ow_hole h]
theorem Sv.hole {K : PySem.W.Frag} {j : Nat} {v : Option V} (S : Sv K c H σ env) (h : env[j]? = some .no) : Sv K c H (σ.set j v) env := by
  have at_ : ∀ {i : Nat} {s : Sl}, env[i]? = some s → s ≠ .no → (σ.set j v)[i]? = σ[i]? := fun {i s} z n => by
    have n : j ≠ i := fun q => by rw [← q, h] at z; exact n (Option.some.inj z).symm
    rw [List.getElem?_set, if_neg n]
  refine ⟨S.toHb, by rw [List.length_set]; exact S.len, fun i k d e a z1 z2 z3 z4 => ?_, fun i d z => ?_, fun i d z => ?_⟩
  · rw [at_ z1 (fun z => nomatch z)] at z3
    rw [at_ z2 (fun z => nomatch z)] at z4
    exact S.uniq i k d e a z1 z2 z3 z4
  · obtain ⟨x, h1, h2⟩ := S.tree i d z
    exact ⟨x, by rw [at_ z (fun z => nomatch z)]; exact h1, by rw [av_hole h]; exact h2⟩
  · obtain ⟨x, h1, h2, h3, h4⟩ := S.own i d z
    exact ⟨x, by rw [at_ z (fun z => nomatch z)]; exact h1, h2, h3, by rw [av_hole h]; exact h4⟩
theorem Cq.ex {D : Addr} {acc : Dt} {H'' : Hp} (q : Cq g c σ e1 H1 D acc H') (e : Ex H' H'') : Cq g c σ e1 H1 D acc H'' := by
  refine ⟨q.sv.ex e, q.kf.trans (Ko.ex e), q.ol.keep (A := c.O) (Ko.ex e) ?_⟩
  cases z : H' D with
  | none => exact absurd z q.ol.some
  | some u => exact e D u z
theorem set_none {j : Nat} {τ : L2.St} : (τ.set j none).set j none = τ.set j none := by rw [List.set_set]
theorem ef_lc22 {wi wi1 : TI} {j1 j2 j3 : Nat} (hne : j1 ≠ j2) (hn1 : j1 ≠ j3) (hn2 : j2 ≠ j3) (F : Dt → List Dt)
    (h : Ei g env wi fun ds e1 => nOwn e1 j1 ∧ nOwn e1 j2 ∧ e1[j3]? = some .no ∧ (∀ d ∈ ds, ∃ d1 d2, d = .tup [d1, d2] ∧ Ei g ((e1.set j1 (.v d1)).set j2 (.v d2)) wi1 fun ds1 e3 => e3 = (e1.set j1 (.v d1)).set j2 (.v d2) ∧ ∃ f : Dt → Dt, F d = ds1.map f ∧
      ∀ d3 ∈ ds1, Et g (((e1.set j1 (.v d1)).set j2 (.v d2)).set j3 (.v d3)) te fun t e4 => e4 = ((e1.set j1 (.v d1)).set j2 (.v d2)).set j3 (.v d3) ∧ t = f d3) ∧ (ds.flatMap F).length ≤ Zz ∧ P (.lst (ds.flatMap F)) e1) :
    Ef g env (tLc2 wi (gTup g.K 2 (gCons (gName j1) (gCons (gName j2) gNil))) tYes wi1 (gName j3) tYes te [j1, j2, j3] [j3]) P := fun c L σ H S Q q => by
  refine h c L σ H S _ fun J ds e1 H1 ⟨hj1, hj2, hj3, hs, hz, hp⟩ S1 l1 k1 w D hD => ?_
  obtain ⟨σ0, eσ⟩ : ∃ σ0, σ0 = σ.set j3 none := ⟨_, rfl⟩
  have S0 : Sv g.K c H1 σ0 e1 := by rw [eσ]; exact S1.hole hj3
  have avE : Av c σ0 e1 = Av c σ e1 := by rw [eσ]; exact av_hole hj3
  refine ⟨fun i m H' => m = ds.length - i ∧ i ≤ ds.length ∧ Cq g c σ0 e1 H1 D (.lst ((ds.take i).flatMap F)) H',
    ⟨_, rfl, Nat.zero_le _, Cq.start S0 hD ⟨[], upd_same, rfl, Nat.zero_le _, fun i x d z => by simp at z⟩⟩, ?_⟩
  rintro i m H' ⟨rfl, hi, C'⟩
  have ka : Ko (Av c σ e1) (Av c σ e1) H1 H' := by
    rw [← avE]
    exact C'.kf.mono (A' := Av c σ0 e1) (Mv.av S0.sO) fun _ z => .inr z
  by_cases hlt : i < ds.length
  · refine .inr ⟨w.go i H' hlt ka, fun H2 => Cq g c σ0 e1 H1 D (.lst ((ds.take (i + 1)).flatMap F)) H2, fun H2 z => ⟨ds.length - (i + 1), by omega, rfl, hlt, z⟩, fun x H'' y => ?_⟩
    obtain ⟨e, d, ed, rd⟩ := w.yld (Av (c.add D) σ0 e1) i H' x H'' hlt ka (fun a z => by
      rcases Av.add.mp z with z | z
      · exact .inl (by rw [← avE]; exact z)
      · exact .inr (by rw [z]; exact hD)) C'.sv.lk_av y
    obtain ⟨d1, d2, rfl, hs⟩ := hs d (List.mem_of_getElem? ed)
    have htk : (ds.take (i + 1)).flatMap F = (ds.take i).flatMap F ++ F (.tup [d1, d2]) := by
      rw [List.take_add_one, ed, List.flatMap_append]
      simp
    have hz1 : ((ds.take i).flatMap F).length + (F (.tup [d1, d2])).length ≤ Zz := by
      rw [← List.length_append, ← htk]
      refine Nat.le_trans ?_ hz
      conv => rhs; rw [← List.take_append_drop (i + 1) ds]
      rw [List.flatMap_append, List.length_append]
      omega
    cases rd with
    | @tup a xs _ ho h1 hl hz' he =>
      obtain ⟨x1, x2, rfl⟩ : ∃ x1 x2, xs = [x1, x2] := by
        match xs, hl with
        | [x1, x2], _ => exact ⟨x1, x2, rfl⟩
      have r1 := he 0 x1 d1 rfl rfl
      have r2 := he 1 x2 d2 rfl rfl
      obtain ⟨C2, Sa⟩ := C'.into (j := j1) e r1
      have Sb : Sv g.K (c.add D) H'' ((σ0.set j1 (some x1)).set j2 (some x2)) ((e1.set j1 (.v d1)).set j2 (.v d2)) := Sa.set_v (r2.mono av_set_v)
      have ew : wipe σ [j1, j2, j3] = wipe σ0 [j1, j2] := by rw [eσ]; rfl
      have e3 : ((σ0.set j1 (some x1)).set j2 (some x2)).set j3 none = (σ0.set j1 (some x1)).set j2 (some x2) := by
        rw [List.set_comm _ _ hn2, List.set_comm _ _ hn1, eσ, set_none]
      refine ⟨a, _, rfl, .inl (.inl h1), rfl, x1, [x2], rfl, x2, [], rfl, rfl, ?_⟩
      rw [ew, (wipe2 hne).1]
      refine ⟨?_, ?_⟩
      · show wipe (((σ0.set j1 (some x1)).set j2 (some x2)).set j3 none) [j1, j2] = _
        rw [e3]
        exact (wipe2 hne).2
      refine hs (c.add D) (L.add S1.sO) _ H'' Sb _ fun J1 ds1 e3' H4 ⟨eq, f, hF, hf⟩ S4 l4 k4 w4 => ?_
      subst eq
      obtain ⟨C3, Sa3⟩ := C2.step2 S0 hD hj1 hj2 Sa Sb S4 k4
      have hno : ((e1.set j1 (.v d1)).set j2 (.v d2))[j3]? = some Sl.no := by rw [List.getElem?_set, if_neg hn2, List.getElem?_set, if_neg hn1]; exact hj3
      have hj3' : ∀ d0, ((e1.set j1 (.v d1)).set j2 (.v d2))[j3]? ≠ some (Sl.own d0) := fun d0 z => by rw [hno] at z; cases z
      rw [hF] at htk hz1
      rw [List.length_map] at hz1
      refine ⟨fun k n H' => n = ds1.length - k ∧ k ≤ ds1.length ∧ Cq g c σ0 e1 H1 D (.lst ((ds.take i).flatMap F ++ (ds1.take k).map f)) H' ∧ Sv g.K (c.add D) H' (σ0.set j1 (some x1)) (e1.set j1 (.v d1)) ∧ Sv g.K (c.add D) H' ((σ0.set j1 (some x1)).set j2 (some x2)) ((e1.set j1 (.v d1)).set j2 (.v d2)) ∧
        Ko (Av (c.add D) ((σ0.set j1 (some x1)).set j2 (some x2)) ((e1.set j1 (.v d1)).set j2 (.v d2))) (Av (c.add D) ((σ0.set j1 (some x1)).set j2 (some x2)) ((e1.set j1 (.v d1)).set j2 (.v d2))) H4 H', ⟨_, rfl, Nat.zero_le _, by rw [List.take_zero, List.map_nil, List.append_nil]; exact C3, Sa3, S4, Ko.refl⟩, ?_⟩
      rintro k n H5 ⟨rfl, hk, C5, Sa5, Sb5, kk⟩
      by_cases hk2 : k < ds1.length
      · refine .inr ⟨w4.go k H5 hk2 kk, fun H2 => Cq g c σ0 e1 H1 D (.lst ((ds.take i).flatMap F ++ (ds1.take (k + 1)).map f)) H2 ∧ Sv g.K (c.add D) H2 (σ0.set j1 (some x1)) (e1.set j1 (.v d1)) ∧ Sv g.K (c.add D) H2 ((σ0.set j1 (some x1)).set j2 (some x2)) ((e1.set j1 (.v d1)).set j2 (.v d2)) ∧
          Ko (Av (c.add D) ((σ0.set j1 (some x1)).set j2 (some x2)) ((e1.set j1 (.v d1)).set j2 (.v d2))) (Av (c.add D) ((σ0.set j1 (some x1)).set j2 (some x2)) ((e1.set j1 (.v d1)).set j2 (.v d2))) H4 H2, fun H2 z => ⟨ds1.length - (k + 1), by omega, rfl, hk2, z⟩, fun x3 H6 y3 => ?_⟩
        obtain ⟨e6, d3, ed3, rd3⟩ := w4.yld _ k H5 x3 H6 hk2 kk (fun a z => .inl z) Sb5.lk_av y3
        have C6 := C5.ex e6
        have Sa6 := Sa5.ex e6
        have Sb6 := Sb5.ex e6
        have Sc6 := Sb6.set_v (i := j3) rd3
        have ew3 : wipe ((σ0.set j1 (some x1)).set j2 (some x2)) [j3] = (σ0.set j1 (some x1)).set j2 (some x2) := e3
        rw [ew3]
        refine ⟨?_, ?_⟩
        · show (((σ0.set j1 (some x1)).set j2 (some x2)).set j3 (some x3)).set j3 none = _
          rw [List.set_set]
          exact e3
        refine hf d3 (List.mem_of_getElem? ed3) (c.add D) (L.add S1.sO) _ H6 Sc6 _ fun yv t e4 H7 ⟨e0, et⟩ S7 l7 k7 r7 => ?_
        subst e0 et
        have own2 : ∀ a, Ow ((σ0.set j1 (some x1)).set j2 (some x2)) ((e1.set j1 (.v d1)).set j2 (.v d2)) a → Ow (((σ0.set j1 (some x1)).set j2 (some x2)).set j3 (some x3)) (((e1.set j1 (.v d1)).set j2 (.v d2)).set j3 (.v d3)) a := fun a ⟨i, e, z1, z2⟩ => by
          have n : i ≠ j3 := fun z => hj3' e (by rw [← z]; exact z1)
          exact ⟨i, e, by rw [List.getElem?_set, if_neg (Ne.symm n)]; exact z1, by rw [List.getElem?_set, if_neg (Ne.symm n)]; exact z2⟩
        have k7' : Ko (Mv (c.add D) ((σ0.set j1 (some x1)).set j2 (some x2)) ((e1.set j1 (.v d1)).set j2 (.v d2))) (An (c.add D) ((σ0.set j1 (some x1)).set j2 (some x2)) ((e1.set j1 (.v d1)).set j2 (.v d2))) H6 H7 := k7.mono (fun a z => mv_set_v a z) fun a z => z.imp id (fun z => z.imp id (own2 a))
        have Sb7 := Sb6.unset hj3' S7 k7'
        obtain ⟨C7, Sa7⟩ := C6.step2 S0 hD hj1 hj2 Sa6 Sb6 Sb7 k7'
        obtain ⟨xs, z1, z2, z3, z4⟩ := C7.ol
        have hlen : ((ds.take i).flatMap F ++ (ds1.take k).map f).length < Zz := by
          rw [List.length_append, List.length_map, List.length_take]
          omega
        have ne : ∀ s, c.so = some s → D ≠ s ∧ D ≠ c.cc.cc := fun s z => ⟨fun q => S0.dom s (S0.sO s (.inl z)).1 (by rw [← q]; exact hD), fun q => S0.dom c.cc.cc ((S0.sO s (.inl z)).2 s z) (by rw [← show D = c.cc.cc from q]; exact hD)⟩
        have C8 := C7.wr_list S0 hD z1 hlen (Cq.out2 hj1 hj2 (Cq.out hj3' r7))
        have e8 : ((ds.take i).flatMap F ++ (ds1.take k).map f) ++ [f d3] = (ds.take i).flatMap F ++ (ds1.take (k + 1)).map f := by
          rw [List.append_assoc, List.take_add_one, ed3, List.map_append]
          rfl
        rw [e8] at C8
        refine ⟨xs, z1, Nat.lt_of_lt_of_le (show xs.length < Zz by rw [z2]; exact hlen) (by decide), C8, Sa7.wrO (.inr rfl) ne (base_none S0 hD) C7.ol.pl, Sb7.wrO (.inr rfl) ne (base_none S0 hD) C7.ol.pl, ?_⟩
        exact ((kk.trans (Ko.ex e6)).trans (k7'.mono (Mv.av Sb6.sO) fun _ z => .inr z)).trans (Ko.mut (.inl (.inr rfl)))
      · have : k = ds1.length := by omega
        subst this
        rw [List.take_length, ← htk] at C5
        exact .inl ⟨w4.stop H5 kk, C5⟩
  · have : i = ds.length := by omega
    subst this
    rw [List.take_length] at C'
    obtain ⟨v, ev⟩ : ∃ v, σ = σ0.set j3 v := by
      have hl : j3 < σ.length := by rw [S1.len]; exact (List.getElem?_eq_some_iff.mp hj3).1
      exact ⟨σ[j3], by rw [eσ, List.set_set, List.set_getElem_self]⟩
    have kf : Ko (Mv c σ e1) (An c σ e1) H1 H' := by
      have := C'.kf
      rw [eσ, mv_hole hj3, an_hole hj3] at this
      exact this
    have sv : Sv g.K (c.add D) H' σ e1 := by rw [ev]; exact C'.sv.hole hj3
    have ol : Ol c.so (Av (c.add D) σ e1) H' D (.lst (ds.flatMap F)) := by
      have := C'.ol
      rw [eσ, av_hole hj3] at this
      exact this
    exact .inl ⟨w.stop H' ka, q D _ e1 H' hp sv l1 (k1.trans (kf.le l1)) (k1.back hD) ol⟩
end
end Wv
namespace Wv
open PySem PySem.Spec PyProof.Rows L2 Evl
section
variable {g : Gx} {env : List Sl} {te : TE} {P : Dt → List Sl → Prop}
/-- l.pop(), l a list of one's own -/
theorem et_popL {i : Nat} {ds : List Dt} {d : Dt} (h0 : env[i]? = some (Sl.own (.lst (ds ++ [d])))) (p : P d (env.set i (.own (.lst ds)))) : Et g env (tBM0 g.K "list" rPop (tVar i)) P := fun c L σ H S Q q => by
  obtain ⟨p', h1, _, _, xs, h4, w5, w6, w7⟩ := S.own i _ h0
  refine ⟨.ref p', h1, .inl ⟨rfl, xs, sq_of h4⟩, ?_⟩
  have rs : Rvs c.so (Av c σ env) H xs (ds ++ [d]) := ⟨w5, w7⟩
  have hl : xs.length = ds.length + 1 := by rw [w5]; simp
  obtain ⟨y, hy, ry⟩ := rs.get (i := ds.length) (d := d) (by simp)
  have hp : Av c σ env p' := .inr ⟨i, _, h0, h1⟩
  have ed : (ds ++ [d]).eraseIdx ds.length = ds := by rw [List.eraseIdx_append_of_length_le (Nat.le_refl _)]; simp
  have ex : xs.eraseIdx ds.length = xs.dropLast := by
    rw [List.eraseIdx_eq_take_drop_succ, List.dropLast_eq_take, List.drop_of_length_le (by omega), List.append_nil, hl]
    rfl
  have rs' : Rvs c.so (Av c σ env) (upd H p' (.lst xs.dropLast)) xs.dropLast ds := by
    have := (rs.eraseIdx ds.length).keep (A := c.O) (Ko.mut (H := H) (o := .lst xs.dropLast) hp)
    rw [ed, ex] at this
    exact this
  have S2 := S.put (e := .lst ds) h0 h1 ⟨xs.dropLast, upd_same, rs'.1, by rw [List.length_append] at w6; omega, rs'.2⟩
  show rPop (.ref p') [] H Q
  refine ⟨p', xs, y, rfl, rfl, h4, by rw [show xs.length - 1 = ds.length by omega]; exact hy, q y d _ _ p S2 (fun j e he => ?_) (fw_put (e := .lst ds) h0 h1).1 ((ry.keep (A := c.O) (Ko.mut hp)).mono fun a z => (av_put h0).mp z)⟩
  rcases Sl.get_set he with ⟨ej, _⟩ | ⟨_, z⟩
  · rw [ej]
    exact ⟨_, h0⟩
  · exact ⟨e, z⟩
end
end Wv
namespace Lw
open PySem PySem.Spec PyProof.Rows L2 Evl Wv
/-! ### what is reached -/
/-- the boxes that a box's wires lead to (hn: those that hold nothing) -/
def edg (bx : Str → List Wi) (hn : Bool) (n : Str) : List Str := ((bx n).filter fun x => !hn || x.2.isEmpty).map (·.1)
inductive Rch (bx : Str → List Wi) (hn : Bool) (s : Str) : Str → Prop
  | one {m : Str} (h : m ∈ edg bx hn s) : Rch bx hn s m
  | step {n m : Str} (h : Rch bx hn s n) (h2 : m ∈ edg bx hn n) : Rch bx hn s m
theorem Rch.of_closed {bx : Str → List Wi} {hn : Bool} {s : Str} {F : List Str} (h0 : ∀ m ∈ edg bx hn s, m ∈ F) (h1 : ∀ n ∈ F, ∀ m ∈ edg bx hn n, m ∈ F) {m : Str} (h : Rch bx hn s m) : m ∈ F := by
  induction h with
  | one h => exact h0 _ h
  | step _ h2 ih => exact h1 _ ih _ h2
def tkD (F : List Str) : Dt := .dct (F.map fun m => (.inr m, .bl true))
theorem tk_has (F : List Str) (z : Str) : (dlk (F.map fun m => ((.inr m : Key), Dt.bl true)) (.inr z)).isSome = decide (z ∈ F) := by
  induction F with
  | nil => rfl
  | cons a F ih =>
    unfold dlk at ih ⊢
    rw [List.map_cons, List.find?_cons]
    by_cases e : a = z
    · subst e
      simp
    · have : decide ((.inr a : Key) = .inr z) = false := decide_eq_false fun q => e (Sum.inr.inj q)
      simp only [this]
      rw [ih]
      simp [Ne.symm e]
theorem fin_tk {F : List Str} {z : Str} {k : Dt → Prop} (p : k (.bl (!decide (z ∈ F)))) : fIn true (.str z) (tkD F) k := by
  show k (.bl (!(dlk (F.map fun m => ((.inr m : Key), Dt.bl true)) (.inr z)).isSome))
  rw [tk_has]
  exact p
theorem dpt_tk {F : List Str} {z : Str} (h : z ∉ F) : Dt.dct (dpt (F.map fun m => ((.inr m : Key), Dt.bl true)) (.inr z) (.bl true)) = tkD (F ++ [z]) := by
  rw [dpt_new]
  · unfold tkD
    rw [List.map_append]
    rfl
  · intro q
    rw [List.map_map] at q
    obtain ⟨m, hm, e⟩ := List.mem_map.mp q
    cases e
    exact h hm
theorem tk_len (F : List Str) : (F.map fun m => ((.inr m : Key), Dt.bl true)).length = F.length := List.length_map _
/-- wires lead to boxes that stand -/
def Clo (ns : List Str) (bx : Str → List Wi) : Prop := ∀ n ∈ ns, ∀ x ∈ bx n, x.1 ∈ ns
theorem edg_in {ns : List Str} {bx : Str → List Wi} (c : Clo ns bx) {hn : Bool} {n m : Str} (h : n ∈ ns) (h2 : m ∈ edg bx hn n) : m ∈ ns := by
  unfold edg at h2
  obtain ⟨x, hx, rfl⟩ := List.mem_map.mp h2
  exact c n h x (List.mem_filter.mp hx).1
theorem Rch.inns {ns : List Str} {bx : Str → List Wi} (c : Clo ns bx) {hn : Bool} {s m : Str} (hs : s ∈ ns) (h : Rch bx hn s m) : m ∈ ns := by
  induction h with
  | one h => exact edg_in c hs h
  | step _ h2 ih => exact edg_in c ih h2
theorem nd_len {F ns : List Str} (h : F.Nodup) (hs : ∀ m ∈ F, m ∈ ns) : F.length ≤ ns.length := h.length_le_of_subset hs
section
variable {P : Program} {w : World} {K : PySem.W.Frag} {mg : Str → Option Value} {base : Heap}
def RReach : Rd3 := fun ds Pd _ => ∃ kvs s hn ns bx, ds = [.dct kvs, .str s, .bl hn] ∧ (BoxT kvs ns bx ∧ Clo ns bx ∧ s ∈ ns ∧ ∀ n ∈ ns, PyData.strOk n = true) ∧ ∀ F : List Str, F.Nodup → (∀ m, m ∈ F ↔ Rch bx hn s m) → Pd (tkD F)
theorem w_reached (T : Txt P K mg) : FnOk P w K mg base CX0 5 T.a_reached T.d_reached ["boxes", "start", "holds_nothing"] (spW K true RReach) := by
  refine T.F_reached.ok sc_reached (fun vs H Q E h => w_len 3 h fun _ _ _ ⟨_, _, _, _, _, e, _⟩ => by rw [e]; rfl) (fun cdv A outer s H vs Q E hr h => ⟨_, PSs.nox (pss_cons (ps_par (i := 3) (j := 4) rfl sc_reached.nd rfl rfl (by decide) rfl rfl (pa_cons pe_dnewK (pa_cons (pe_lst (pa_cons (pv 1) pa_nil)) pa_nil)) rfl rfl) (pss_cons (ps_while PassesOwn.never (pt_cmpR (uNe K (hu64 hr)) (pv 4) (pe_lst pa_nil) (nomark _)) (pss_one (ps_for PassesOwn.never rfl (pi_anyK (K := K) (pe_call (ok_wires_of_box T) (hr.mono (by omega)) rfl T.g_wires_of_box T.F_wires_of_box.kp T.b_wires_of_box .nil pass0 (pa_cons (pe_ix (uIxA K (hu64 hr)) (pv 0) (pe_bm0 PySem.F.plainAttrs_list PySem.F.slot_list_pop PySem.F.type_list_pop mt_pop (pv 4)) (fun _ _ => rfl)) pa_nil))) (pg_tupK (K := K) (n := 2) rfl (pgs_cons (pg_name (i := 5) sc_reached.nd rfl (Or.inl rfl)) (pgs_cons (pg_name (i := 6) sc_reached.nd rfl (Or.inl rfl)) pgs_nil))) (pss_one (ps_if (PW.pt (pw_and (pt_cmpR (uNiA K (hu64 hr)) (pv 5) (pv 3) (by with_unfolding_all rfl)) (pw_and1 (PW.pt (pw_or (pt_cmpR (uEq K (hu64 hr)) (pv 6) (pe_lst pa_nil) (nomark _)) (pw_or1 (pt_not (pt_val (pv 2))))))))) (pss_cons (ps_dput (hu_of hr) (pv 3) (pv 5) pe_bl rfl) (pss_one (ps_expr (pe_bm PySem.F.plainAttrs_list PySem.F.slot_list_append PySem.F.type_list_append mt_append (pv 4) (pa_cons (pv 5) pa_nil))))) pss_nil))))) (pss_one (ps_ret (pv 3))))), w_start h 7 rfl fun ds Pd xe ⟨kvs, st, hn, ns, bx, e, ⟨B, C, hs, hso⟩, hp⟩ => ?_⟩)
  subst e
  refine ⟨Nat.le_of_ble_eq_true rfl, ?_⟩
  refine wd_seq (wd_parOO (ef_dnew (ef_lst (ea_cons (et_var rfl (ea_nil ⟨Nat.le_of_ble_eq_true rfl, ?_⟩))))))
  refine wd_seq (wd_while (fun m e => ∃ (F W : List Str) (s5 s6 : Sl), e = [.v (.dct kvs), .v (.str st), .v (.bl hn), .own (tkD F), .own (.lst (W.map .str)), s5, s6] ∧ (∀ n ∈ W, n = st ∨ n ∈ F) ∧ F.Nodup ∧ (∀ m ∈ F, Rch bx hn st m) ∧ (∀ n, n = st ∨ n ∈ F → n ∉ W → ∀ m ∈ edg bx hn n, m ∈ F) ∧ W.length ≤ F.length + 1 ∧
    m = 2 * (ns.length - F.length) + W.length) (2 * ns.length + 1) ⟨[], [st], .no, .no, rfl, (fun n hn => .inl (List.mem_singleton.mp hn)), List.nodup_nil, (fun m hm => by cases hm), (fun n h1 h2 => h1.elim (fun h1 => absurd (List.mem_singleton.mpr h1) h2) fun h1 => by cases h1), Nat.le_refl _, rfl⟩ ?_)
  rintro m e ⟨F, W, s5, s6, rfl, hW, nd, hR, hP, hWl, rfl⟩
  have hFn : ∀ m ∈ F, m ∈ ns := fun m hm => (hR m hm).inns C hs
  have hWn : ∀ m ∈ W, m ∈ ns := fun m hm => by
    rcases hW m hm with e | h
    · rw [e]; exact hs
    · exact hFn m h
  have hFl := nd_len nd hFn
  refine eb_test (et_opL rop_ne rfl (Ef.et (ef_lst (ea_nil ⟨Nat.zero_le _, _, rfl, fne_nil (dats_str (List.all_eq_true.mpr fun m hm => hso m (hWn m hm))) (by rw [deps_str]; decide) ⟨rfl, v2 (fun h => ?_) fun h => ?_⟩⟩))))
  · obtain ⟨W0, n, rfl⟩ : ∃ W0 n, W = W0 ++ [n] := by
      rcases List.eq_nil_or_concat W with e | ⟨W0, n, e⟩
      · subst e; cases h
      · exact ⟨W0, n, by rw [e, List.concat_eq_append]⟩
    have hn0 : n = st ∨ n ∈ F := hW n (List.mem_append_right _ (List.mem_singleton.mpr rfl))
    obtain ⟨b, hb, hk⟩ := B.bx n (hWn n (List.mem_append_right _ (List.mem_singleton.mpr rfl)))
    rw [List.map_append]
    refine wd_for (ei_any rfl (et_call0 nolk (ea_cons (et_op rop_ix (et_var rfl (et_popL (i := 4) (ds := W0.map .str) (d := .str n) rfl ⟨b, hb, ?_⟩))))))
    refine ea_nil (r1_i hk.kBox ?_)
    rw [hk.wob]
    refine ⟨fun i e => ∃ (N : List Str) (s5 s6 : Sl), e = [.v (.dct kvs), .v (.str st), .v (.bl hn), .own (tkD (F ++ N)), .own (.lst ((W0 ++ N).map .str)), s5, s6] ∧ (F ++ N).Nodup ∧ (∀ m ∈ F ++ N, Rch bx hn st m) ∧ (∀ x ∈ (bx n).take i, (!hn || x.2.isEmpty) = true → x.1 ∈ F ++ N), ?_, ?_, ?_⟩
    · exact ⟨[], s5, s6, by rw [List.append_nil, List.append_nil]; rfl, by rw [List.append_nil]; exact nd, by rw [List.append_nil]; exact hR, fun x hx => by simp at hx⟩
    · rintro i d e hi ⟨N, s5, s6, rfl, nd2, hR2, hT⟩
      obtain ⟨x, hx, rfl⟩ : ∃ x, (bx n)[i]? = some x ∧ d = wD x := by
        rw [List.getElem?_map] at hi
        cases e : (bx n)[i]? with
        | none => rw [e] at hi; cases hi
        | some x => rw [e] at hi; cases hi; exact ⟨x, rfl, rfl⟩
      have hxm := List.mem_of_getElem? hx
      refine (tv_tup (tgs_cons (tv_name (tgs_cons (tv_name (tgs_nil ?_)))))).tg
      refine wd_if ?_
      repeat' (first | (with_reducible show Et _ _ _ _; first | with_reducible refine et_popAt (by with_unfolding_all rfl) ?_ | with_reducible refine et_var (by with_unfolding_all rfl) ?_ | with_reducible refine et_int ?_ | with_reducible refine et_str ?_ | with_reducible refine et_bl ?_ | with_reducible refine et_non ?_ | with_reducible refine et_andV ?_ | with_reducible refine et_orV ?_ | with_reducible refine et_notV ?_ | with_reducible refine et_if ?_ | with_reducible refine et_isStr ?_ | with_reducible refine et_isInt ?_ | with_reducible refine et_isBool ?_ | with_reducible refine et_isDict ?_ | with_reducible refine et_isList ?_ | with_reducible refine et_isTuple ?_ | with_reducible refine et_isLT ?_ | with_reducible refine et_tup ?_ | with_reducible refine et_neg ?_ | with_reducible refine et_ixO (by with_unfolding_all rfl) ?_ | with_reducible refine et_opL (by first | exact rop_ix | exact rop_eq | exact rop_ne | exact rop_in | exact rop_ni | exact rop_add | exact rop_sub | exact rop_mul | exact rop_lt | exact rop_le | exact rop_gt | exact rop_ge | exact rop_mod | exact rop_div | exact rop_isN | exact rop_notN) (by with_unfolding_all rfl) ?_ | with_reducible refine et_opRo (by first | exact rop_ix | exact rop_eq | exact rop_ne | exact rop_in | exact rop_ni | exact rop_add | exact rop_sub | exact rop_mul | exact rop_lt | exact rop_le | exact rop_gt | exact rop_ge | exact rop_mod | exact rop_div | exact rop_isN | exact rop_notN) (by with_unfolding_all rfl) ?_ | with_reducible refine et_op (by first | exact rop_ix | exact rop_eq | exact rop_ne | exact rop_in | exact rop_ni | exact rop_add | exact rop_sub | exact rop_mul | exact rop_lt | exact rop_le | exact rop_gt | exact rop_ge | exact rop_mod | exact rop_div | exact rop_isN | exact rop_notN) ?_ | with_reducible refine et_cbO (by first | exact rcl_len | exact rcl_int | exact rcl_sum | exact rcl_max | exact rcl_min | exact rcl_all | exact rcl_any) (by with_unfolding_all rfl) ?_ | with_reducible refine et_cb (by first | exact rcl_len | exact rcl_int | exact rcl_sum | exact rcl_max | exact rcl_min | exact rcl_all | exact rcl_any) ?_ | with_reducible refine et_chain (by first | exact rop_ix | exact rop_eq | exact rop_ne | exact rop_in | exact rop_ni | exact rop_add | exact rop_sub | exact rop_mul | exact rop_lt | exact rop_le | exact rop_gt | exact rop_ge | exact rop_mod | exact rop_div | exact rop_isN | exact rop_notN) (by first | exact rop_ix | exact rop_eq | exact rop_ne | exact rop_in | exact rop_ni | exact rop_add | exact rop_sub | exact rop_mul | exact rop_lt | exact rop_le | exact rop_gt | exact rop_ge | exact rop_mod | exact rop_div | exact rop_isN | exact rop_notN) ?_ | with_reducible refine et_dget2O (by with_unfolding_all rfl) ?_ | with_reducible refine et_dget2 ?_ | with_reducible refine et_call0 nolk ?_ | with_reducible refine et_call0 samelk ?_ | with_reducible refine et_sl ?_) | (with_reducible show Wd _ _ _ _; first | with_reducible refine wd_seq ?_ | with_reducible refine wd_if ?_ | with_reducible refine wd_ret ?_ | with_reducible refine wd_next ?_ | with_reducible refine wd_raise ?_ | with_reducible refine wd_dput ?_ | with_reducible refine wd_app (by with_unfolding_all rfl) ?_ | with_reducible refine wd_retN ?_) | (with_reducible show Ea _ _ _ _; first | with_reducible refine ea_nil ?_ | with_reducible refine ea_cons ?_) | (with_reducible show Eb _ _ _ _; first | with_reducible refine eb_or ?_ | with_reducible refine eb_and ?_ | with_reducible refine eb_not ?_ | with_reducible refine eb_B ?_ | with_reducible refine eb_test ?_ | with_reducible refine eb_yes ?_) | (with_reducible show Eo _ _ _ _; first | with_reducible refine eo_none ?_ | with_reducible refine eo_some ?_) | with_reducible refine isTyI (by first | with_unfolding_all rfl | assumption | exact pur_ok (by assumption)) ?_ | with_reducible refine iteT ?_ | with_reducible refine iteF ?_ | with_reducible refine bt (by first | with_unfolding_all rfl | assumption) ?_ | with_reducible refine bf (by first | with_unfolding_all rfl | assumption) ?_ | with_reducible refine nt (by first | with_unfolding_all rfl | assumption) ?_ | with_reducible refine nf (by first | with_unfolding_all rfl | assumption) ?_ | with_reducible refine fin_s ?_ | with_reducible refine fni_s ?_ | with_reducible refine fx0 (by first | with_unfolding_all rfl | assumption) ?_ | with_reducible refine fx1 (by first | with_unfolding_all rfl | assumption) ?_ | with_reducible refine fx2 (by first | with_unfolding_all rfl | assumption) ?_ | with_reducible refine fxlen (by first | with_unfolding_all rfl | assumption) ?_ | with_reducible refine fxit (by first | with_unfolding_all rfl | assumption) ?_ | with_reducible refine feq_i ?_ | with_reducible refine feq_s ?_ | with_reducible refine fne_i ?_ | with_reducible refine fne_s ?_ | with_reducible refine r1_i (by first | with_unfolding_all rfl | assumption | exact pur_ok (by assumption)) ?_ | with_reducible refine sclI (by with_unfolding_all rfl) ?_ | with_reducible refine lenI (by with_unfolding_all rfl) ?_ | with_reducible refine eI ?_ | with_reducible refine addI ?_ | with_reducible refine jI ?_ | with_reducible refine lenLst ?_ | with_reducible refine lenTup ?_ | with_reducible refine lenDct ?_ | with_reducible refine lenStr ?_ | with_reducible refine slL ?_ | with_reducible refine slT ?_ | with_reducible refine slS ?_ | with_reducible refine intI ?_ | with_reducible refine intB ?_ | with_reducible refine itsL ?_ | with_reducible refine itsT ?_ | with_reducible refine itdL ?_ | with_reducible refine itdT ?_ | with_reducible refine kdI ?_ | with_reducible refine kdS ?_ | with_reducible refine exOwn (by with_unfolding_all rfl) ?_ | with_reducible refine exOwnD (by with_unfolding_all rfl) ?_ | with_reducible refine exOwnL (by with_unfolding_all rfl) ?_)
      obtain ⟨ok1, ok2⟩ := hk.ok x hxm
      have htk : (bx n).take (i + 1) = (bx n).take i ++ [x] := by rw [List.take_add_one, hx]; rfl
      have old : x.1 ∈ F ++ N ∨ ¬ (!hn || x.2.isEmpty) = true → ∀ x ∈ (bx n).take (i + 1), (!hn || x.2.isEmpty) = true → x.1 ∈ F ++ N := fun h y hy hc => by
        rw [htk] at hy
        rcases List.mem_append.mp hy with hy | hy
        · exact hT y hy hc
        · rw [List.mem_singleton.mp hy] at hc ⊢
          exact h.elim id fun z => absurd hc z
      have new : ∀ {bk ct : List Sl → Prop}, x.1 ∉ F ++ N → (!hn || x.2.isEmpty) = true → Wd ⟨K, E, xe, true, []⟩ [.v (.dct kvs), .v (.str st), .v (.bl hn), .own (tkD (F ++ N)), .own (.lst ((W0 ++ N).map .str)), .v (.str x.1), .v (.lst x.2)]
          (tSeq (sDPut (tVar 3) (tVar 5) (tC (V.bl true))) (tDrop (tBM K "list" rAppend (tVar 4) (tCons (tVar 5) tNil)))) ⟨fun e => ∃ (N : List Str) (s5 s6 : Sl), e = [.v (.dct kvs), .v (.str st), .v (.bl hn), .own (tkD (F ++ N)), .own (.lst ((W0 ++ N).map .str)), s5, s6] ∧ (F ++ N).Nodup ∧ (∀ m ∈ F ++ N, Rch bx hn st m) ∧ (∀ x ∈ (bx n).take (i + 1), (!hn || x.2.isEmpty) = true → x.1 ∈ F ++ N), Pd, bk, ct⟩ := fun {bk ct} h1 h2 => by
        have hed : x.1 ∈ edg bx hn n := List.mem_map.mpr ⟨x, List.mem_filter.mpr ⟨hxm, h2⟩, rfl⟩
        have hrx : Rch bx hn st x.1 := by
          rcases hn0 with e | h
          · rw [e] at hed; exact .one hed
          · exact .step (hR n h) hed
        have nd3 : (F ++ (N ++ [x.1])).Nodup := by
          rw [← List.append_assoc]
          exact List.nodup_append.mpr ⟨nd2, by simp, fun a ha b hb e => h1 (by rw [List.mem_singleton.mp hb] at e; rw [← e]; exact ha)⟩
        have hl2 : (F ++ N).length < Zz := by
          have := nd_len nd2 fun m hm => (hR2 m hm).inns C hs
          have := B.sz
          omega
        have hl3 : (W0 ++ N).length < Zz := by
          rw [List.length_append] at hl2 hWl ⊢
          simp only [List.length_cons, List.length_nil] at hWl
          omega
        refine wd_seq (wd_dput (et_bl ⟨_, rfl, et_var rfl ⟨_, rfl, by rw [tk_len]; exact hl2, ?_⟩⟩))
        rw [dpt_tk h1]
        refine wd_app rfl (et_var rfl ⟨_, rfl, by rw [List.length_map]; exact hl3, N ++ [x.1], .v (.str x.1), .v (.lst x.2), ?_, nd3, fun m hm => ?_, fun y hy hc => ?_⟩)
        · rw [← List.append_assoc, ← List.append_assoc, List.map_append (l₁ := W0 ++ N)]
          rfl
        · rw [← List.append_assoc] at hm
          rcases List.mem_append.mp hm with hm | hm
          · exact hR2 m hm
          · rw [List.mem_singleton.mp hm]; exact hrx
        · rw [← List.append_assoc]
          rw [htk] at hy
          rcases List.mem_append.mp hy with hy | hy
          · exact List.mem_append_left _ (hT y hy hc)
          · exact List.mem_append_right _ (by rw [List.mem_singleton.mp hy]; exact List.mem_singleton.mpr rfl)
      refine fin_tk ⟨rfl, v2 (fun h => ?_) fun h => ?_⟩
      · have h1 : x.1 ∉ F ++ N := by simpa using h
        refine eb_or (eb_test (et_op rop_eq (et_var rfl (Ef.et (ef_lst (ea_nil ⟨Nat.zero_le _, feq_nil ok1 (by omega) (b2 (fun h2 => ?_) fun h2 => ?_)⟩))))))
        · exact new h1 (by rw [h2, Bool.or_true])
        · refine eb_not (eb_B (et_var rfl (n2 (fun h3 => ?_) fun h3 => ?_)))
          · exact new h1 (by rw [h3]; rfl)
          · exact wd_next ⟨N, _, _, rfl, nd2, hR2, old (.inr (by rw [h2, h3]; decide))⟩
      · have h1 : x.1 ∈ F ++ N := by simpa using h
        exact wd_next ⟨N, _, _, rfl, nd2, hR2, old (.inl h1)⟩
    · rintro e ⟨N, s5, s6, rfl, nd2, hR2, hT⟩
      rw [List.length_map, List.take_length] at hT
      have hl2 := nd_len nd2 fun m hm => (hR2 m hm).inns C hs
      rw [List.length_append] at hl2
      refine ⟨2 * (ns.length - (F ++ N).length) + (W0 ++ N).length, ?_, F ++ N, W0 ++ N, s5, s6, rfl, fun m hm => ?_, nd2, hR2, fun m hm hw y hy => ?_, ?_, rfl⟩
      · simp only [List.length_append, List.length_cons, List.length_nil]
        omega
      · rcases List.mem_append.mp hm with hm | hm
        · exact (hW m (List.mem_append_left _ hm)).imp id (List.mem_append_left _)
        · exact .inr (List.mem_append_right _ hm)
      · have hmN : m ∉ N := fun z => hw (List.mem_append_right _ z)
        have hm2 : m = st ∨ m ∈ F := hm.imp id fun z => (List.mem_append.mp z).elim id fun z => absurd z hmN
        by_cases e : m = n
        · subst e
          obtain ⟨x, hx, rfl⟩ := List.mem_map.mp hy
          obtain ⟨h1, h2⟩ := List.mem_filter.mp hx
          exact hT x h1 h2
        · exact List.mem_append_left _ (hP m hm2 (fun z => (List.mem_append.mp z).elim (fun z => hw (List.mem_append_left _ z)) fun z => e (List.mem_singleton.mp z)) y hy)
      · simp only [List.length_append, List.length_cons, List.length_nil] at hWl ⊢
        omega
  · have hW0 : W = [] := by cases W with
      | nil => rfl
      | cons => cases h
    subst hW0
    exact wd_ret (et_own rfl (hp F nd fun m => ⟨hR m, fun h => Rch.of_closed (fun m hm => hP st (.inl rfl) (fun z => by cases z) m hm) (fun n hn2 m hm => hP n (.inr hn2) (fun z => by cases z) m hm) h⟩))
end
end Lw
namespace Lw
open PySem PySem.Spec PyProof.Rows L2 Evl Wv
/-! ### Net(boxes, outputs) with every error -/
theorem isB_i {b : Bool} {k : Bool → Prop} (h : k b) : isB (.bl b) k := by rw [isB_bl]; exact h
theorem asF_dat {n : Nat} {d : Dt} (h : GtL n d) : dat (asF n d) = true ∧ dep (asF n d) ≤ n := by
  induction h with
  | @word n z h =>
    have e : asF (n + 1) (.str z) = .str z := by unfold asF; rfl
    rw [e]
    exact ⟨by unfold dat; exact (word_ok h).1, by rw [dep_str]; omega⟩
  | @op n d z xs h hz h1 he ih =>
    have e : asF (n + 1) d = .tup (.str z :: xs.map (asF n)) := by unfold asF; rw [h]
    rw [e]
    refine ⟨?_, ?_⟩
    · unfold dat
      refine dats_of fun x hx => ?_
      rcases List.mem_cons.mp hx with e | hx
      · rw [e]; unfold dat; exact (word_ok hz).1
      · obtain ⟨y, hy, rfl⟩ := List.mem_map.mp hx
        exact (ih y hy).1
    · rw [dep_tup]
      refine Nat.succ_le_succ (deps_le fun x hx => ?_)
      rcases List.mem_cons.mp hx with e | hx
      · rw [e, dep_str]; omega
      · obtain ⟨y, hy, rfl⟩ := List.mem_map.mp hx
        exact (ih y hy).2
theorem asw_wD {kvs : List (Key × Dt)} {d : Dt} (h : wireF kvs d = true) : ∃ (q : Str) (b : Dt) (ts : List Dt), itL d = some [.str q, b] ∧ itL b = some ts ∧ (dlk kvs (.inr q)).isSome = true ∧ aswF d = wD (q, ts.map (asF 9)) ∧ okW (q, ts.map (asF 9)) := by
  obtain ⟨q, b, ts, h1, h2, h3, h4⟩ := wireF_inv h
  refine ⟨q, b, ts, h1, h3, h2, ?_, dats_of fun x hx => ?_, ?_⟩
  · unfold aswF
    rw [h1]
    show (match itL b with | some ts => _ | none => _) = _
    rw [h3]
    rfl
  · obtain ⟨y, hy, rfl⟩ := List.mem_map.mp hx
    exact (asF_dat (grF_gt (h4 y hy))).1
  · have : deps (ts.map (asF 9)) ≤ 9 := deps_le fun x hx => by
      obtain ⟨y, hy, rfl⟩ := List.mem_map.mp hx
      exact (asF_dat (grF_gt (h4 y hy))).2
    show deps (ts.map (asF 9)) < 30
    omega
/-- wires that hold nothing, of boxes as they were given -/
def edW (w : Dt) : Option Str := match itL w with
  | some [.str q, b] => match itL b with
    | some [] => some q
    | _ => none
  | _ => none
def edB (d : Dt) : List Str := match itL d with
  | some [_, _, c] => match itL c with
    | some l => l.filterMap edW
    | none => []
  | _ => []
theorem box_kb {nm ws : List (Key × Dt)} {d : Dt} (h : boxF nm ws d = true) : KB (asbF d) (wsOf (asbF d)) ∧ (wsOf (asbF d)).length ≤ 4 ∧ (∀ x ∈ wsOf (asbF d), (dlk nm (.inr x.1)).isSome = true) ∧ ((wsOf (asbF d)).filter fun x => !true || x.2.isEmpty).map (·.1) = edB d := by
  rcases boxF_inv h with ⟨z, h, hz⟩ | ⟨z, c, l, h, hz, hc, hl, hw, hq⟩
  · rw [asbF_in h]
    have e : wsOf (.tup [.str "in", .str z]) = [] := rfl
    rw [e]
    exact ⟨.inp z, Nat.zero_le _, fun x hx => (by cases hx), by unfold edB; rw [h]; rfl⟩
  · rw [asbF_op h hc]
    obtain ⟨wl, e1, e2, e3, e4⟩ : ∃ wl : List Wi, l.map aswF = wl.map wD ∧ (∀ x ∈ wl, okW x ∧ (dlk nm (.inr x.1)).isSome = true) ∧ wl.length = l.length ∧ (wl.filter fun x => !true || x.2.isEmpty).map (·.1) = l.filterMap edW := by
      clear hl h hc hq
      induction l with
      | nil => exact ⟨[], rfl, (fun x hx => by cases hx), rfl, rfl⟩
      | cons a l ih =>
        obtain ⟨wl, e1, e2, e3, e4⟩ := ih fun x hx => hw x (List.mem_cons_of_mem _ hx)
        obtain ⟨q, b, ts, a1, a2, a3, a4, a5⟩ := asw_wD (hw a (List.mem_cons_self ..))
        refine ⟨(q, ts.map (asF 9)) :: wl, by rw [List.map_cons, List.map_cons, e1, a4], fun x hx => ?_, by simp [e3], ?_⟩
        · rcases List.mem_cons.mp hx with e | hx
          · rw [e]; exact ⟨a5, a3⟩
          · exact e2 x hx
        · have ed : edW a = if ts = [] then some q else none := by
            unfold edW
            rw [a1]
            show (match itL b with | some [] => some q | _ => none) = _
            rw [a2]
            cases ts with
            | nil => rfl
            | cons t ts => rfl
          rw [List.filterMap_cons, ed, List.filter_cons]
          cases ts with
          | nil =>
            show (List.map (·.1) (((q, []) : Wi) :: _)) = _
            rw [List.map_cons, e4]
            rfl
          | cons t ts => exact e4
    have ew : wsOf (.tup [.str "op", .str z, .lst (l.map aswF)]) = wl := by
      rw [e1]
      show (wl.map wD).filterMap unW = wl
      exact unW_map wl
    rw [ew]
    refine ⟨by rw [e1]; exact .op z wl fun x hx => (e2 x hx).1, by omega, fun x hx => (e2 x hx).2, ?_⟩
    rw [e4]
    unfold edB
    rw [h]
    show _ = (match itL c with | some l => _ | none => _)
    rw [hc]
/-- the names of boxes -/
def unK : Key → Str
  | .inr z => z
  | .inl _ => ""
def nsOf (kvs : List (Key × Dt)) : List Str := kvs.map fun kv => unK kv.1
def keep (kvs : List (Key × Dt)) : List (Key × Dt) := kvs.map fun kv => (kv.1, asbF kv.2)
theorem chkB_keep {nm kvs : List (Key × Dt)} (nd : (kvs.map (·.1)).Nodup) {f' : List (Key × Dt)} : ∀ (post pre : List (Key × Dt)) (ws : List (Key × Dt)), kvs = pre ++ post → chkB nm kvs (post.map fun kv => kDt kv.1) (keep pre) ws = .inr f' → f' = keep kvs ∧ ∀ kv ∈ post, wordD (kDt kv.1) = true ∧ ∃ ws, boxF nm ws kv.2 = true
  | [], pre, ws, e, h => by
    rw [List.append_nil] at e
    subst e
    cases h
    exact ⟨rfl, fun kv hkv => (by cases hkv)⟩
  | (k, v) :: post, pre, ws, e, h => by
    have hv : dlk kvs k = some v := dlk_nd nd (by rw [e]; exact List.mem_append_right _ (List.mem_cons_self ..))
    have hno : k ∉ (keep pre).map (·.1) := by
      intro z
      rw [e, List.map_append, List.nodup_append] at nd
      unfold keep at z
      rw [List.map_map] at z
      exact nd.2.2 k z k (List.mem_cons_self ..) rfl
    have h : (if wordD (kDt k) = true ∧ boxF nm ws ((dlk kvs (keyD (kDt k))).getD .non) = true then chkB nm kvs (post.map fun kv => kDt kv.1) (dpt (keep pre) (keyD (kDt k)) (asbF ((dlk kvs (keyD (kDt k))).getD .non))) (wsF ws (asbF ((dlk kvs (keyD (kDt k))).getD .non))) else .inl (kDt k)) = .inr f' := h
    rw [keyD_k, hv] at h
    have h : (if wordD (kDt k) = true ∧ boxF nm ws v = true then chkB nm kvs (post.map fun kv => kDt kv.1) (dpt (keep pre) k (asbF v)) (wsF ws (asbF v)) else .inl (kDt k)) = .inr f' := h
    split at h
    · rename_i hc
      rw [dpt_new hno] at h
      have h : chkB nm kvs (post.map fun kv => kDt kv.1) (keep (pre ++ [(k, v)])) (wsF ws (asbF v)) = .inr f' := by unfold keep at h ⊢; rw [List.map_append]; exact h
      obtain ⟨h1, h2⟩ := chkB_keep nd post (pre ++ [(k, v)]) _ (by rw [e, List.append_assoc]; rfl) h
      refine ⟨h1, fun kv hkv => ?_⟩
      rcases List.mem_cons.mp hkv with e | hkv
      · rw [e]; exact ⟨hc.1, ws, hc.2⟩
      · exact h2 kv hkv
    · cases h
/-- boxes that pass -/
structure Pass (kvs bt : List (Key × Dt)) : Prop where
  eq : bt = keep kvs
  ks : kvs.map (·.1) = (nsOf kvs).map Sum.inr
  wd : ∀ n ∈ nsOf kvs, wordD (.str n) = true
  bx : ∀ kv ∈ kvs, ∃ ws, boxF (nmF kvs) ws kv.2 = true
theorem chkB_pass {kvs bt : List (Key × Dt)} (nd : (kvs.map (·.1)).Nodup) (h : chkB (nmF kvs) kvs (kvs.map fun kv => kDt kv.1) [] [] = .inr bt) : Pass kvs bt := by
  obtain ⟨h1, h2⟩ := chkB_keep nd kvs [] [] rfl h
  have hk : ∀ kv ∈ kvs, ∃ z, kv.1 = .inr z ∧ wordD (.str z) = true := fun kv hkv => by
    have := (h2 kv hkv).1
    obtain ⟨k, v⟩ := kv
    cases k with
    | inl i => cases this
    | inr z => exact ⟨z, rfl, this⟩
  refine ⟨h1, ?_, fun n hn => ?_, fun kv hkv => (h2 kv hkv).2⟩
  · unfold nsOf
    rw [List.map_map]
    refine List.map_congr_left fun kv hkv => ?_
    obtain ⟨z, e, _⟩ := hk kv hkv
    show kv.1 = Sum.inr (unK kv.1)
    rw [e]
    rfl
  · unfold nsOf at hn
    obtain ⟨kv, hkv, e⟩ := List.mem_map.mp hn
    obtain ⟨z, e2, hz⟩ := hk kv hkv
    rw [e2] at e
    have e : z = n := e
    rw [← e]
    exact hz
theorem Pass.nd {kvs bt : List (Key × Dt)} (p : Pass kvs bt) (nd : (kvs.map (·.1)).Nodup) : (nsOf kvs).Nodup := by
  rw [p.ks] at nd
  exact nd.of_map _ fun a b h e => h (by rw [e])
theorem Pass.bt_ks {kvs bt : List (Key × Dt)} (p : Pass kvs bt) : bt.map (·.1) = (nsOf kvs).map Sum.inr := by
  rw [p.eq, ← p.ks]
  unfold keep
  rw [List.map_map]
  rfl
theorem Pass.at {kvs bt : List (Key × Dt)} (p : Pass kvs bt) (nd : (kvs.map (·.1)).Nodup) {n : Str} (hn : n ∈ nsOf kvs) : ∃ v ws, dlk kvs (.inr n) = some v ∧ boxF (nmF kvs) ws v = true ∧ dlk bt (.inr n) = some (asbF v) := by
  have hk : (.inr n : Key) ∈ kvs.map (·.1) := by rw [p.ks]; exact List.mem_map_of_mem hn
  obtain ⟨kv, hkv, e⟩ := List.mem_map.mp hk
  obtain ⟨ws, hw⟩ := p.bx kv hkv
  refine ⟨kv.2, ws, dlk_nd nd (by rw [← e]; exact hkv), hw, ?_⟩
  refine dlk_nd ?_ ?_
  · rw [p.bt_ks, ← p.ks]; exact nd
  · rw [p.eq, ← e]
    exact List.mem_map.mpr ⟨kv, hkv, rfl⟩
theorem Pass.boxT {kvs bt : List (Key × Dt)} (p : Pass kvs bt) (nd : (kvs.map (·.1)).Nodup) (hs : kvs.length < Zz) : BoxT bt (nsOf kvs) (bxOf bt) := by
  refine ⟨p.bt_ks, p.nd nd, fun n hn => ?_, by unfold nsOf; rw [List.length_map]; exact hs, fun n hn => ?_⟩
  · obtain ⟨v, ws, _, h2, h3⟩ := p.at nd hn
    refine ⟨_, h3, ?_⟩
    have : bxOf bt n = wsOf (asbF v) := by unfold bxOf; rw [h3]
    rw [this]
    exact (box_kb h2).1
  · have := (word_ok (p.wd n hn)).2.1
    simp only [Zz]
    omega
theorem Pass.edg {kvs bt : List (Key × Dt)} (p : Pass kvs bt) (nd : (kvs.map (·.1)).Nodup) {n : Str} {v : Dt} (h : dlk kvs (.inr n) = some v) : edg (bxOf bt) true n = edB v := by
  have hn : n ∈ nsOf kvs := by
    have := List.mem_map_of_mem (f := (·.1)) (dlk_mem h)
    rw [p.ks] at this
    obtain ⟨m, hm, e⟩ := List.mem_map.mp this
    cases e
    exact hm
  obtain ⟨v', ws, h1, h2, h3⟩ := p.at nd hn
  rw [h] at h1
  cases h1
  have : bxOf bt n = wsOf (asbF v) := by unfold bxOf; rw [h3]
  unfold Lw.edg
  rw [this]
  exact (box_kb h2).2.2.2
theorem Pass.clo {kvs bt : List (Key × Dt)} (p : Pass kvs bt) (nd : (kvs.map (·.1)).Nodup) : Clo (nsOf kvs) (bxOf bt) := fun n hn x hx => by
  obtain ⟨v, ws, _, h2, h3⟩ := p.at nd hn
  have : bxOf bt n = wsOf (asbF v) := by unfold bxOf; rw [h3]
  rw [this] at hx
  have := (box_kb h2).2.2.1 x hx
  rw [nmF_ok p.ks p.wd] at this
  exact of_decide_eq_true this
theorem all_inN {F ns : List Str} (h : F.Nodup) (hs : ∀ n ∈ F, n ∈ ns) (hl : ns.length ≤ F.length) : ∀ n ∈ ns, n ∈ F := fun n hn => by
  apply Classical.byContradiction
  intro hno
  have := len_sub (l := n :: F) (l' := ns) (List.nodup_cons.mpr ⟨hno, h⟩) fun a ha => (List.mem_cons.mp ha).elim (fun e => by rw [e]; exact hn) (hs a)
  rw [List.length_cons] at this
  omega
theorem strAtN {l : List Str} {i : Nat} {d : Dt} (h : (l.map Dt.str)[i]? = some d) : ∃ n, d = .str n ∧ l[i]? = some n := by
  rw [List.getElem?_map] at h
  cases e : l[i]? with
  | none => rw [e] at h; cases h
  | some n => rw [e] at h; cases h; exact ⟨n, rfl, rfl⟩
/-- an order of all boxes lets no ring be -/
theorem ord_ring {ns found : List Str} {bx : Str → List Wi} (nd : ns.Nodup) (o : Ord ns bx found) (hl : found.length = ns.length) {n : Str} (hn : n ∈ ns) : ¬ Rch bx true n n := by
  have hall : ∀ m ∈ ns, m ∈ found := all_inN o.nd o.sub (by omega)
  have step : ∀ a ∈ found, ∀ b ∈ edg bx true a, b ∈ found ∧ found.idxOf b < found.idxOf a := fun a ha b hb => by
    obtain ⟨x, hx, rfl⟩ := List.mem_map.mp hb
    obtain ⟨h1, h2⟩ := List.mem_filter.mp hx
    have hz : x.2 = [] := by simpa using h2
    obtain ⟨i, hi⟩ := List.mem_iff_getElem?.mp ha
    obtain ⟨j, hj, hj2⟩ := o.top i a hi x h1 hz
    rw [idx_nd o.nd hi, idx_nd o.nd hj2]
    exact ⟨List.mem_of_getElem? hj2, hj⟩
  have go : ∀ m, Rch bx true n m → m ∈ found ∧ found.idxOf m < found.idxOf n := fun m h => by
    induction h with
    | one h => exact step _ (hall n hn) _ h
    | step _ h2 ih =>
      obtain ⟨a, b⟩ := step _ ih.1 _ h2
      exact ⟨a, by omega⟩
  exact fun h => by have := (go n h).2; omega
open Classical in
/-- the first box on a ring that holds nothing -/
noncomputable def ringOf (ns : List Str) (bx : Str → List Wi) : Option Str := ns.find? fun n => decide (Rch bx true n n)
theorem ringOf_at {ns : List Str} {bx : Str → List Wi} {i : Nat} {n : Str} (hn : ns[i]? = some n) (hr : Rch bx true n n) (hno : ∀ m ∈ ns.take i, ¬ Rch bx true m m) : ringOf ns bx = some n := by
  unfold ringOf
  rw [show ns = ns.take i ++ n :: ns.drop (i + 1) by
    obtain ⟨h1, h2⟩ := List.getElem?_eq_some_iff.mp hn
    rw [← h2, ← List.drop_eq_getElem_cons h1, List.take_append_drop]]
  rw [List.find?_append, List.find?_eq_none.mpr fun m hm => by simpa using hno m hm]
  simp [hr]
theorem ringOf_no {ns : List Str} {bx : Str → List Wi} (hno : ∀ m ∈ ns, ¬ Rch bx true m m) : ringOf ns bx = none := List.find?_eq_none.mpr fun n hn => by simpa using hno n hn
/-- how the making of a net ends -/
inductive NE where
  | boxes (d : Dt) | box (k : Dt) | outputs (d : Dt) | output (k : Dt) | ring (n : Str) | net (bt ot : List (Key × Dt))
noncomputable def neF (bd od : Dt) : NE := match bd with
  | .dct kvs => match chkB (nmF kvs) kvs (kvs.map fun kv => kDt kv.1) [] [] with
    | .inl k => .box k
    | .inr bt => match od with
      | .dct ovs => match chkO bt ovs (ovs.map fun kv => kDt kv.1) [] with
        | .inl k => .output k
        | .inr ot => match ringOf (nsOf kvs) (bxOf bt) with
          | some n => .ring n
          | none => .net bt ot
      | d => .outputs d
  | d => .boxes d
def NE.ends {P : Program} {K : PySem.W.Frag} {mg : Str → Option Value} (T : Txt P K mg) (Pd : List (Key × Dt) → List (Key × Dt) → Prop) (xe : Addr → List (Str × Dt) → Prop) : NE → Prop
  | .boxes d => xe T.c_BadBoxes [("thing", d)]
  | .box k => xe T.c_BadBox [("name", k)]
  | .outputs d => xe T.c_BadOutputs [("thing", d)]
  | .output k => xe T.c_BadOutput [("name", k)]
  | .ring n => xe T.c_Ring [("name", .str n)]
  | .net bt ot => Pd bt ot
/-- what may be handed as boxes, as outputs -/
def PreN (n : Nat) : Dt → Prop
  | .dct kvs => PreB n kvs ∧ (kvs.map (·.1)).Nodup
  | d => isDc d = false ∧ okT d
section
variable {P : Program} {w : World} {K : PySem.W.Frag} {mg : Str → Option Value} {base : Heap}
def RNF (T : Txt P K mg) : Rd3 := fun ds Pd xe => ∃ bd od, ds = [bd, od] ∧ PreN 12 bd ∧ PreN 10 od ∧ (neF bd od).ends T (fun bt ot => ∀ found, Ord (nsOf bt) (bxOf bt) found → Pd (netD T bt ot found)) xe
theorem nsOf_keep (kvs : List (Key × Dt)) : nsOf (keep kvs) = nsOf kvs := by
  unfold keep nsOf
  rw [List.map_map]
  rfl
theorem ok_Net_initF (T : Txt P K mg) : FnOk P w K mg base (L2.CX P w) 15 T.a_Net_init T.d_Net_init ["self", "boxes", "outputs"] (spI K true T.c_Net (RNF T)) := by
  refine T.F_Net_init.ok sc_Net_init (fun vs H Q E h => i_len 2 h fun _ _ _ ⟨_, _, e, _⟩ => by rw [e]; rfl) (fun cdv A outer s H vs Q E hr h => ⟨_, (pss_cons (ps_fld (pv 0) (pe_call (ok_checked_boxes T) (hr.mono (by omega)) rfl T.g_checked_boxes T.F_checked_boxes.kp T.b_checked_boxes .nil (passes_call (takes_of rfl rfl rfl rfl) fun _ _ _ _ h => h) (pa_cons (pv 1) pa_nil)) rfl) (pss_cons (ps_fld (pv 0) (pe_call (ok_checked_outputs T) (hr.mono (by omega)) rfl T.g_checked_outputs T.F_checked_outputs.kp T.b_checked_outputs .nil (passes_call (takes_of rfl rfl rfl rfl) fun _ _ _ _ h => h) (pa_cons (pv 2) (pa_cons (pe_fld (pv 0) rfl) pa_nil))) rfl) (pss_cons (ps_fld (pv 0) (pe_call (ok_order_of T) (hr.mono (by omega)) rfl T.g_order_of T.F_order_of.kp T.b_order_of .nil pass0 (pa_cons (pe_fld (pv 0) rfl) pa_nil)) rfl) (pss_one (ps_if (pt_cmpR op_lt (pe_callB (u_lenA K) rfl T.n_len (by decide +kernel) (pa_cons (pe_fld (pv 0) rfl) pa_nil)) (pe_callB (u_lenA K) rfl T.n_len (by decide +kernel) (pa_cons (pe_fld (pv 0) rfl) pa_nil)) (nomark _)) (pss_one (ps_for (passes_of rfl) rfl (pi_anyK (K := K) (pe_fld (pv 0) rfl)) (pg_name (i := 3) sc_Net_init.nd rfl (Or.inl rfl)) (pss_one (ps_if (pt_cmpR (uInA K (hu64 hr)) (pv 3) (pe_call (w_reached T) (hr.mono (by omega)) rfl T.g_reached T.F_reached.kp T.b_reached .nil pass0 (pa_cons (pe_fld (pv 0) rfl) (pa_cons (pv 3) (pa_cons pe_bl pa_nil)))) (by with_unfolding_all rfl)) (pss_one (ps_raiseW rfl (takes_of rfl rfl rfl rfl) (pmk_sx (k := 0) T.X_Ring (hr.mono (by omega)) T.g_Ring (ExcC.ra T.e_Ring T.X_Ring) (pa_cons (pv 3) pa_nil)))) pss_nil)))) pss_nil))))), ?_⟩)
  obtain ⟨c, x, vs', ds, Pd, xe, rfl, N0, rs, ⟨bd, od, rfl, pb, po, hR⟩, hq, L⟩ := h
  match vs', rs with
  | [], rs => exact absurd rs.1 (by simp)
  | [_], rs => exact absurd rs.1 (by simp)
  | _ :: _ :: _ :: _, rs => exact absurd rs.1 (by simp)
  | [vb, vo], rs =>
    have rb := rs.2 0 vb bd rfl rfl
    have ro := rs.2 1 vo od rfl rfl
    have La := L.add (p := x) N0.cso
    have hlk : lkle true c.lk := fun _ => L.1.symm
    have one : ∀ {H : Hp} {v : V} {d : Dt}, Rv c.so (c.add x).O H v d → Rvs c.so (c.add x).O H [v] [d] := fun r => Rvs.cons r Rvs.nil
    have hB : RB T [bd] (fun t => ∃ kvs bt, bd = .dct kvs ∧ t = .dct bt ∧ PreB 12 kvs ∧ (kvs.map (·.1)).Nodup ∧ chkB (nmF kvs) kvs (kvs.map fun kv => kDt kv.1) [] [] = .inr bt) xe := by
      cases bd with
      | dct kvs =>
        refine ⟨_, rfl, .inl ⟨kvs, rfl, pb.1, ?_⟩⟩
        cases e : chkB (nmF kvs) kvs (kvs.map fun kv => kDt kv.1) [] [] with
        | inl k =>
          have : neF (.dct kvs) od = .box k := by unfold neF; dsimp only; rw [e]
          rw [this] at hR
          exact hR
        | inr bt => exact ⟨kvs, bt, rfl, rfl, pb.1, pb.2, e⟩
      | _ => exact ⟨_, rfl, .inr ⟨pb.1, pb.2, hR⟩⟩
    refine ⟨vb, rfl, N0.call (R := RB T) hlk La (one rb) hB fun v1 d1 H1 ⟨kvs, bt, e0, e1, pk, nd, hchk⟩ N1 k1 r1 => ?_⟩
    subst e0 e1
    have p := chkB_pass nd hchk
    have hB := p.boxT nd pk.sz
    refine N1.store (i := 0) rfl T.l_Net T.o_Net_box_table (by decide) r1 fun H2 N2 k2 => ?_
    obtain ⟨dx, xs, y, z1, z2, z3⟩ := N2.get (f := "box_table") (t := .dct bt) rfl
    have hO : RO T [od, .dct bt] (fun u => ∃ ot, u = .dct ot ∧ (match ringOf (nsOf kvs) (bxOf bt) with
          | some n => NE.ring n
          | none => NE.net bt ot).ends T (fun bt ot => ∀ found, Ord (nsOf bt) (bxOf bt) found → Pd (netD T bt ot found)) xe) xe := by
      cases od with
      | dct ovs =>
        refine ⟨_, _, rfl, .inl ⟨ovs, rfl, po.1, ?_⟩⟩
        cases e : chkO bt ovs (ovs.map fun kv => kDt kv.1) [] with
        | inl k =>
          have : neF (.dct kvs) (.dct ovs) = .output k := by unfold neF; simp only [hchk, e]
          rw [this] at hR
          exact hR
        | inr ot =>
          have : neF (.dct kvs) (.dct ovs) = (match ringOf (nsOf kvs) (bxOf bt) with | some n => NE.ring n | none => NE.net bt ot) := by unfold neF; simp only [hchk, e]
          rw [this] at hR
          exact ⟨ot, rfl, hR⟩
      | _ =>
        refine ⟨_, _, rfl, .inr ⟨po.1, po.2, ?_⟩⟩
        unfold neF at hR
        simp only [hchk] at hR
        exact hR
    refine ⟨vo, rfl, .ref x, rfl, x, _, dx, xs, y, rfl, z1, T.l_Net, T.o_Net_box_table, z2, N2.call (R := RO T) hlk La (Rvs.cons (k2 _ _ (k1 _ _ ro)) (one z3)) hO fun v3 d3 H3 ⟨ot, e3, hF⟩ N3 k3 r3 => ?_⟩
    subst e3
    refine N3.store (i := 0) rfl T.l_Net T.o_Net_output_table (Nat.le_of_ble_eq_true rfl) r3 fun H4 N4 k4 => ?_
    obtain ⟨dx, xs, y, z1, z2, z3⟩ := N4.get (f := "box_table") (t := .dct bt) rfl
    refine ⟨.ref x, rfl, x, _, dx, xs, y, rfl, z1, T.l_Net, T.o_Net_box_table, z2, ?_⟩
    refine N4.call (Pd := fun d => ∃ found, d = .lst (found.map .str) ∧ Ord (nsOf kvs) (bxOf bt) found) (xe := fun _ _ => False) (E := E0) (lk := true) hlk ⟨L.1, fun C fs z => z.elim, .inl rfl⟩ (one z3) ⟨_, _, _, rfl, hB, fun found hf => ⟨found, rfl, hf⟩⟩ fun v5 d5 H5 ⟨found, e5, ho⟩ N5 k5 r5 => ?_
    subst e5
    refine N5.store (i := 0) rfl T.l_Net T.o_Net_order (Nat.le_of_ble_eq_true rfl) r5 fun H6 N6 k6 => ?_
    have e : putD "order" (.lst (found.map .str)) (putD "output_table" (.dct ot) (putD "box_table" (.dct bt) [])) = ([("box_table", .dct bt), ("output_table", .dct ot), ("order", .lst (found.map .str))] : List (Str × Dt)) := rfl
    rw [e] at N6
    dsimp only
    refine N6.rest (σ := L2.start ["self", "boxes", "outputs", "name"] [.ref x, vb, vo]) (Pd := Pd) (xe := xe) L (by rfl) 3 (by rfl) (fun H' => hq _ H') ?_
    have hbl : bt.length = (nsOf kvs).length := by have := congrArg List.length hB.ks; simpa using this
    have done : ringOf (nsOf kvs) (bxOf bt) = none → Pd (netD T bt ot found) := fun h => by
      rw [h] at hF
      refine hF found ?_
      have : (nsOf bt) = nsOf kvs := by rw [p.eq]; exact nsOf_keep kvs
      rw [this]
      exact ho
    refine wd_if (eb_test (et_op rop_lt (et_cb rcl_len (ea_cons (et_fld T.l_Net T.o_Net_order (et_var rfl ⟨_, _, rfl, rfl, ea_nil ?_⟩)))))) 
    show Et _ _ _ _
    refine et_cb rcl_len (ea_cons (et_fld T.l_Net T.o_Net_box_table (et_var rfl ⟨_, _, rfl, rfl, ea_nil ?_⟩)))
    refine Wv.b2 (fun hlt => ?_) fun hlt => wd_next (done (List.find?_eq_none.mpr fun n hn => ?_))
    · refine wd_for (ei_any rfl (et_fld T.l_Net T.o_Net_box_table (et_var rfl ⟨_, _, rfl, rfl, fun kv hkv z hz => ?_, ?_⟩)))
      · have : kv.1 ∈ bt.map (·.1) := List.mem_map_of_mem hkv
        rw [hB.ks, hz] at this
        obtain ⟨n, hn, e⟩ := List.mem_map.mp this
        cases e
        exact hB.tx _ hn
      rw [ks_map hB.ks]
      refine ⟨fun i e => ∃ s : Sl, e = [.v (netD T bt ot found), .no, .no, s] ∧ ∀ n ∈ (nsOf kvs).take i, ¬ Rch (bxOf bt) true n n, ⟨.no, rfl, fun n h => by cases h⟩, ?_, ?_⟩
      · rintro i d e hi ⟨s, rfl, hno⟩
        obtain ⟨n, rfl, hn⟩ := strAtN hi
        have htk : (nsOf kvs).take (i + 1) = (nsOf kvs).take i ++ [n] := by rw [List.take_add_one, hn]; rfl
        have hnm := List.mem_of_getElem? hn
        refine tg_name (wd_if (eb_test (et_op rop_in (et_var rfl (et_call0 samelk (ea_cons (et_fld T.l_Net T.o_Net_box_table (et_var rfl ⟨_, _, rfl, rfl, ea_cons (et_var rfl (ea_cons (et_bl (ea_nil ⟨bt, n, true, _, _, rfl, ⟨hB, p.clo nd, hnm, fun m hm => (word_ok (p.wd m hm)).1⟩, fun F hFn hR => ?_⟩))))⟩))))))))
        show isB (.bl (dlk (F.map fun m => ((.inr m : Key), Dt.bl true)) (.inr n)).isSome) _
        rw [tk_has]
        refine Wv.b2 (fun h => wd_raise (ea_cons (et_var rfl (ea_nil ⟨_, rfl, ?_⟩)))) fun h => wd_next ⟨_, rfl, fun m hm => ?_⟩
        · have hr := (hR n).mp (of_decide_eq_true h)
          have : ringOf (nsOf kvs) (bxOf bt) = some n := by
            unfold ringOf
            rw [show nsOf kvs = (nsOf kvs).take i ++ n :: (nsOf kvs).drop (i + 1) by
              rw [← List.take_append_drop i (nsOf kvs)]
              congr 1
              · rw [List.take_append_drop]
              · rw [List.take_append_drop]
                obtain ⟨h1, h2⟩ := List.getElem?_eq_some_iff.mp hn
                rw [← h2, List.drop_eq_getElem_cons h1]]
            rw [List.find?_append, List.find?_eq_none.mpr fun m hm => by simpa using hno m hm]
            simp [hr]
          rw [this] at hF
          exact hF
        · rw [htk] at hm
          rcases List.mem_append.mp hm with hm | hm
          · exact hno m hm
          · rw [List.mem_singleton.mp hm]
            exact fun z => of_decide_eq_false h ((hR n).mpr z)
      · rintro e ⟨s, rfl, hno⟩
        rw [List.length_map, List.take_length] at hno
        exact done (List.find?_eq_none.mpr fun n hn => by simpa using hno n hn)
    · have hlt := of_decide_eq_false hlt
      rw [List.length_map] at hlt
      have := nd_len ho.nd ho.sub
      have h2 : ¬ Rch (bxOf bt) true n n := ord_ring (p.nd nd) ho (by omega) hn
      simpa using h2
end
end Lw
namespace Lw
open PySem PySem.Spec PyProof.Rows L2 Evl Wv
/-! ### the law's own looks at words, terms, wires, boxes -/
section
variable {P : Program} {w : World} {K : PySem.W.Frag} {mg : Str → Option Value} {base : Heap}
theorem w_l_is_list (T : Txt P K mg) : FnOk P w K mg base CX0 1 T.a_l_is_list T.d_l_is_list ["_law_x"] (spW K false (R1 okT fun d => .bl (isL d))) := by
  refine T.F_l_is_list.ok sc_l_is_list (fun vs H Q E h => w_len 1 h fun _ _ _ ⟨_, e, _⟩ => by rw [e]; rfl) (fun cdv A outer s H vs Q E hr h => ⟨_, PSs.nox (pss_one (ps_ret (pe_callB (u_isinstance K) rfl T.n_isinstance (by decide +kernel) (pa_cons (pv 0) (pa_cons (pe_tup (pa_cons (pe_bltn (v := .ty "list") rfl T.n_list (by decide +kernel) rfl) (pa_cons (pe_bltn (v := .ty "tuple") rfl T.n_tuple (by decide +kernel) rfl) pa_nil))) pa_nil))))), w_start h 1 rfl fun ds P xe ⟨d, e, hd, p⟩ => ?_⟩)
  subst e
  refine ⟨Nat.le_of_ble_eq_true rfl, ?_⟩
  exact wd_ret (et_isLT (et_var rfl ⟨hd, p⟩))
theorem w_l_is_word (T : Txt P K mg) : FnOk P w K mg base CX0 1 T.a_l_is_word T.d_l_is_word ["_law_x"] (spW K false (R1 okT fun d => .bl (wordD d))) := by
  refine T.F_l_is_word.ok sc_l_is_word (fun vs H Q E h => w_len 1 h fun _ _ _ ⟨_, e, _⟩ => by rw [e]; rfl) (fun cdv A outer s H vs Q E hr h => ⟨_, PSs.nox (pss_one (ps_ret (pe_and (pe_callB (u_isinstance K) rfl T.n_isinstance (by decide +kernel) (pa_cons (pv 0) (pa_cons (pe_bltn (v := .ty "str") rfl T.n_str (by decide +kernel) rfl) pa_nil))) (pe_and (pe_chain op_lt op_lt pe_int (pe_callB (u_lenA K) rfl T.n_len (by decide +kernel) (pa_cons (pv 0) pa_nil)) pe_int) (pe_one (pe_callB (u_allA K rfl) rfl T.n_all (by decide +kernel) (pa_cons (pe_lc (own := [("_law_sign", 1)]) (g := gName 1) rfl sc_l_is_word.nd (pi_anyK (K := K) (pv 0)) (blkOk_by (N := ["_law_x", "_law_sign"]) (sc := defScope s_l_is_word) (by decide +kernel)) (fun _ _ _ _ _ => (pg_name (i := 1) sc_l_is_word.nd rfl (Or.inl rfl))) (fun _ _ _ _ _ => pts_nil) (fun _ _ _ _ _ => (pe_cmpR (uInA K (hu64 hr)) (pv 1) pe_str (by with_unfolding_all rfl)))) pa_nil))))))), w_start h 2 rfl fun ds P xe ⟨d, e, hd, p⟩ => ?_⟩)
  subst e
  refine ⟨Nat.le_of_ble_eq_true rfl, ?_⟩
  refine wd_ret (et_andV (et_isStr (et_var rfl ⟨hd, ?_⟩)))
  cases d with
  | str z =>
    have p : P (.bl (wordD (.str z))) := p
    have no : (¬ (0 < z.length ∧ z.length < 9)) → P (.bl false) := fun h => by
      have e : wordD (.str z) = false := by unfold wordD; simp [h]
      rw [e] at p
      exact p
    refine Wv.bt rfl (et_andV (et_chain rop_lt rop_lt (et_int (et_cb rcl_len (ea_cons (et_var rfl (ea_nil (Wv.b2 (fun h1 => et_int (Wv.b2 (fun h2 => ?_) fun h2 => ?_)) fun h1 => ?_))))))))
    · have h1 := of_decide_eq_true h1
      have h2 := of_decide_eq_true h2
      refine et_allY letD (ei_seq (et_var rfl ⟨nown_of rfl (by intro d z; cases z), fun d hd => ?_, ?_⟩))
      · obtain ⟨n, _, rfl⟩ := List.mem_map.mp hd
        exact et_op rop_in (et_var rfl (et_str ⟨n, rfl, rfl, rfl⟩))
      · have e : wordD (.str z) = (strD z).all letD := by
          show (decide (0 < z.length ∧ z.length < 9) && (strD z).all letD) = _
          rw [decide_eq_true (show 0 < z.length ∧ z.length < 9 from ⟨by omega, by omega⟩)]
          rfl
        rw [e] at p
        exact p
    · exact no fun h => of_decide_eq_false h2 (by omega)
    · exact Wv.bf rfl (no fun h => of_decide_eq_false h1 (by omega))
  | _ => exact Wv.bf rfl p
theorem w_l_is_ground (T : Txt P K mg) (n : Nat) : FnOk P w K mg base CX0 (n + 1) T.a_l_is_ground T.d_l_is_ground ["_law_x"] (spW K false (R1 (fun d => pur d = true ∧ dep d < n) fun d => .bl (grF n d))) := by
  induction n with
  | zero => exact ⟨fun vs H Q E h => w_len 1 h fun _ _ _ ⟨_, e, _⟩ => by rw [e]; rfl, fun A outer s H args us vs Q E _ _ _ _ h => by obtain ⟨_, _, _, _, _, _, _, _, ⟨_, _, h, _⟩, _⟩ := h; omega⟩
  | succ n ih =>
    refine T.F_l_is_ground.ok sc_l_is_ground (fun vs H Q E h => w_len 1 h fun _ _ _ ⟨_, e, _⟩ => by rw [e]; rfl) (fun cdv A outer s H vs Q E hr h => ⟨_, PSs.nox (pss_cons (ps_if (pt_not (pt_val (pe_call (w_l_is_list T) (hr.mono (by omega)) rfl T.g_l_is_list T.F_l_is_list.kp T.b_l_is_list .nil pass0 (pa_cons (pv 0) pa_nil)))) (pss_one (ps_ret (pe_call (w_l_is_word T) (hr.mono (by omega)) rfl T.g_l_is_word T.F_l_is_word.kp T.b_l_is_word .nil pass0 (pa_cons (pv 0) pa_nil)))) pss_nil) (pss_one (ps_ret (pe_and (pe_chain op_lt op_lt pe_int (pe_callB (u_lenA K) rfl T.n_len (by decide +kernel) (pa_cons (pv 0) pa_nil)) pe_int) (pe_and (pe_call (w_l_is_word T) (hr.mono (by omega)) rfl T.g_l_is_word T.F_l_is_word.kp T.b_l_is_word .nil pass0 (pa_cons (pe_ix (uIxA K (hu64 hr)) (pv 0) pe_int (fun _ _ => rfl)) pa_nil)) (pe_one (pe_callB (u_allA K rfl) rfl T.n_all (by decide +kernel) (pa_cons (pe_lc (own := [("_law_part", 1)]) (g := gName 1) rfl sc_l_is_ground.nd (pi_anyK (K := K) (pe_slice (uSlA K) (pv 0) (po_some pe_int) po_none)) (blkOk_by (N := ["_law_x", "_law_part"]) (sc := defScope s_l_is_ground) (by decide +kernel)) (fun _ _ _ _ _ => (pg_name (i := 1) sc_l_is_ground.nd rfl (Or.inl rfl))) (fun _ _ _ _ _ => pts_nil) (fun _ _ _ _ _ => (pe_call ih hr rfl T.g_l_is_ground T.F_l_is_ground.kp T.b_l_is_ground .nil pass0 (pa_cons (pv 1) pa_nil)))) pa_nil)))))))), w_start h 2 rfl fun ds P xe ⟨d, e, ⟨hp, hd⟩, p⟩ => ?_⟩)
    subst e
    have p : P (.bl (grF (n + 1) d)) := p
    refine ⟨Nat.le_of_ble_eq_true rfl, ?_⟩
    refine wd_seq (wd_if (eb_not (eb_B (et_call0 nolk (ea_cons (et_var rfl (ea_nil ⟨d, rfl, pur_ok hp, Wv.n2 (fun hl => ?_) fun hl => wd_next ?_⟩)))))))
    · refine wd_ret (et_call0 nolk (ea_cons (et_var rfl (ea_nil ⟨d, rfl, pur_ok hp, ?_⟩))))
      have e : grF (n + 1) d = wordD d := by unfold grF; rw [isL_no hl, Bool.or_false]
      rw [e] at p
      exact p
    · obtain ⟨xs, h⟩ := isL_it hl
      have hpx := itL_mem h hp
      have hw : wordD d = false := by
        cases d with
        | lst ys => rfl
        | tup ys => rfl
        | _ => cases h
      have eg : grF (n + 1) d = (decide (2 ≤ xs.length ∧ xs.length ≤ 5) && (wordD (xs.headD .non) && (xs.drop 1).all (grF n))) := by
        unfold grF
        rw [hw, h]
        rfl
      have no2 : (¬ (2 ≤ xs.length ∧ xs.length ≤ 5)) → P (.bl false) := fun h => by
        rw [eg, decide_eq_false h] at p
        exact p
      refine wd_ret (et_andV (et_chain rop_lt rop_lt (et_int (et_cb rcl_len (ea_cons (et_var rfl (ea_nil ?_)))))))
      rw [itL_len h]
      refine Wv.b2 (fun h2 => et_int (Wv.b2 (fun h3 => ?_) fun h3 => ?_)) fun h2 => Wv.bf rfl (no2 fun h => of_decide_eq_false h2 (by omega))
      · have h2 := of_decide_eq_true h2
        have h3 := of_decide_eq_true h3
        have h5 : 2 ≤ xs.length ∧ xs.length ≤ 5 := by omega
        rw [decide_eq_true h5, Bool.true_and] at eg
        obtain ⟨x0, xr, rfl⟩ : ∃ x0 xr, xs = x0 :: xr := by
          cases xs with
          | nil => simp at h5
          | cons x0 xr => exact ⟨x0, xr, rfl⟩
        have h0 := hpx x0 (List.mem_cons_self ..)
        have eg : grF (n + 1) d = (wordD x0 && xr.all (grF n)) := eg
        rw [eg] at p
        refine et_andV (et_call0 nolk (ea_cons (et_op rop_ix (et_var rfl (et_int (fx0 h (ea_nil ⟨x0, rfl, pur_ok h0.1, Wv.b2 (fun hw0 => ?_) fun hw0 => ?_⟩)))))))
        · rw [hw0, Bool.true_and] at p
          refine et_allY (grF n) (ei_seq (et_sl (et_var rfl (eo_some (et_int ⟨1, rfl, eo_none ?_⟩)))))
          rw [itL_sl h]
          exact ⟨nown_of rfl (by intro d z; cases z), fun x hx => et_call0 nolk (ea_cons (et_var rfl (ea_nil ⟨x, rfl, ⟨(hpx x (List.mem_cons_of_mem _ hx)).1, by have := (hpx x (List.mem_cons_of_mem _ hx)).2; omega⟩, rfl, rfl⟩))), p⟩
        · rw [hw0] at p
          exact p
      · exact no2 fun h => of_decide_eq_false h3 (by omega)
theorem w_l_is_wire (T : Txt P K mg) : FnOk P w K mg base CX0 11 T.a_l_is_wire T.d_l_is_wire ["_law_x", "_law_names_here"] (spW K false fun ds P _ => ∃ (d : Dt) (ns : List Str) (kvs : List (Key × Dt)), ds = [d, .lst (ns.map .str)] ∧ (pur d = true ∧ dep d < 10) ∧ (∀ q, (dlk kvs (.inr q)).isSome = decide (q ∈ ns)) ∧ P (.bl (wireF kvs d))) := by
  refine T.F_l_is_wire.ok sc_l_is_wire (fun vs H Q E h => w_len 2 h fun _ _ _ ⟨_, _, _, e, _⟩ => by rw [e]; rfl) (fun cdv A outer s H vs Q E hr h => ⟨_, PSs.nox (pss_cons (ps_if (PW.pt (pw_or (pt_not (pt_val (pe_call (w_l_is_list T) (hr.mono (by omega)) rfl T.g_l_is_list T.F_l_is_list.kp T.b_l_is_list .nil pass0 (pa_cons (pv 0) pa_nil)))) (pw_or (pt_cmpR (uNe K (hu64 hr)) (pe_callB (u_lenA K) rfl T.n_len (by decide +kernel) (pa_cons (pv 0) pa_nil)) pe_int (nomark _)) (pw_or (pt_not (pt_val (pe_callB (u_isinstance K) rfl T.n_isinstance (by decide +kernel) (pa_cons (pe_ix (uIxA K (hu64 hr)) (pv 0) pe_int (fun _ _ => rfl)) (pa_cons (pe_bltn (v := .ty "str") rfl T.n_str (by decide +kernel) rfl) pa_nil))))) (pw_or1 (pt_cmpR (uNiA K (hu64 hr)) (pe_ix (uIxA K (hu64 hr)) (pv 0) pe_int (fun _ _ => rfl)) (pv 1) (by with_unfolding_all rfl))))))) (pss_one (ps_ret pe_bl)) pss_nil) (pss_one (ps_ret (pe_and (pe_call (w_l_is_list T) (hr.mono (by omega)) rfl T.g_l_is_list T.F_l_is_list.kp T.b_l_is_list .nil pass0 (pa_cons (pe_ix (uIxA K (hu64 hr)) (pv 0) pe_int (fun _ _ => rfl)) pa_nil)) (pe_one (pe_callB (u_allA K rfl) rfl T.n_all (by decide +kernel) (pa_cons (pe_lc (own := [("_law_term", 2)]) (g := gName 2) rfl sc_l_is_wire.nd (pi_anyK (K := K) (pe_ix (uIxA K (hu64 hr)) (pv 0) pe_int (fun _ _ => rfl))) (blkOk_by (N := ["_law_x", "_law_names_here", "_law_term"]) (sc := defScope s_l_is_wire) (by decide +kernel)) (fun _ _ _ _ _ => (pg_name (i := 2) sc_l_is_wire.nd rfl (Or.inl rfl))) (fun _ _ _ _ _ => pts_nil) (fun _ _ _ _ _ => (pe_call (w_l_is_ground T 9) hr rfl T.g_l_is_ground T.F_l_is_ground.kp T.b_l_is_ground .nil pass0 (pa_cons (pv 2) pa_nil)))) pa_nil))))))), w_start h 3 rfl fun ds P xe ⟨d, ns, kvs, e, ⟨hp, hd⟩, hns, p⟩ => ?_⟩)
  subst e
  refine ⟨Nat.le_of_ble_eq_true rfl, ?_⟩
  refine wd_seq (wd_if (eb_or (eb_not (eb_B (et_call0 nolk (ea_cons (et_var rfl (ea_nil ⟨d, rfl, pur_ok hp, Wv.n2 (fun hl => iteT (wd_ret (et_bl ?_))) fun hl => ?_⟩))))))))
  · have e : wireF kvs d = false := by unfold wireF; rw [isL_no hl]
    rw [e] at p
    exact p
  · obtain ⟨xs, h⟩ := isL_it hl
    have hm := itL_mem h hp
    refine eb_or (eb_test (et_op rop_ne (et_cb rcl_len (ea_cons (et_var rfl (ea_nil ?_))))))
    rw [itL_len h]
    refine et_int (Wv.v2 (fun h2 => iteT (wd_ret (et_bl ?_))) fun h2 => ?_)
    · have e : wireF kvs d = false := by
        unfold wireF
        rw [h]
        match xs, h2 with
        | [], _ => rfl
        | [_], _ => rfl
        | [_, _], h2 => cases h2
        | _ :: _ :: _ :: _, _ => rfl
      rw [e] at p
      exact p
    · have h2 : xs.length = 2 := by have := of_decide_eq_true h2; omega
      obtain ⟨a, b, rfl⟩ : ∃ a b, xs = [a, b] := by
        match xs, h2 with
        | [a, b], _ => exact ⟨a, b, rfl⟩
      have ew : wireF kvs d = (inK kvs a && allG b) := by unfold wireF; rw [h]
      rw [ew] at p
      have ha := hm a (by simp)
      have hb := hm b (by simp)
      refine eb_or (eb_not (eb_B (et_isStr (et_op rop_ix (et_var rfl (et_int (fx0 h ⟨pur_ok ha.1, Wv.n2 (fun hs => iteT (wd_ret (et_bl ?_))) fun hs => ?_⟩)))))))
      · have e : inK kvs a = false := by cases a <;> first | rfl | cases hs
        rw [e] at p
        exact p
      · obtain ⟨q, rfl⟩ : ∃ q, a = .str q := by
          cases a with
          | str q => exact ⟨q, rfl⟩
          | _ => cases hs
        refine eb_test (et_op rop_ni (et_op rop_ix (et_var rfl (et_int (fx0 h (et_var rfl (fni_s ?_)))))))
        have ek : inK kvs (.str q) = decide (q ∈ ns) := hns q
        rw [ek] at p
        refine Wv.v2 (fun hk => wd_ret (et_bl ?_)) fun hk => wd_next ?_
        · rw [hk] at p
          exact p
        rw [hk, Bool.true_and] at p
        refine wd_ret (et_andV (et_call0 nolk (ea_cons (et_op rop_ix (et_var rfl (et_int (fx1 h (ea_nil ⟨b, rfl, pur_ok hb.1, Wv.b2 (fun hl2 => ?_) fun hl2 => ?_⟩))))))))
        · obtain ⟨ts, h3⟩ := isL_it hl2
          have hm3 := itL_mem h3 hb.1
          refine et_allY (grF 9) (ei_seq (et_op rop_ix (et_var rfl (et_int (fx1 h ?_)))))
          rw [itL_it h3]
          refine ⟨nown_of rfl (by intro d z; cases z), fun x hx => et_call0 nolk (ea_cons (et_var rfl (ea_nil ⟨x, rfl, ⟨(hm3 x hx).1, by have := (hm3 x hx).2; omega⟩, rfl, rfl⟩))), ?_⟩
          have e : allG b = ts.all (grF 9) := by unfold allG; rw [h3]
          rw [e] at p
          exact p
        · have e : allG b = false := by unfold allG; rw [isL_no hl2]
          rw [e] at p
          exact p
/-- a box but for what is known of its op -/
def lboxF (kvs : List (Key × Dt)) (d : Dt) : Bool := match itL d with
  | some [a, b] => isS a && (wordD b && eqF a (.str "in"))
  | some [a, f, c] => isS a && (wordD f && (eqF a (.str "op") && match itL c with
    | some l => decide (1 ≤ l.length ∧ l.length ≤ 4) && l.all (wireF kvs)
    | none => false))
  | _ => false
/-- how many wires an op has that is known -/
def arB (ws : List (Key × Dt)) (d : Dt) : Bool := match itL d with
  | some [_, .str z, c] => match itL c with
    | some l => eqF ((dlk ws (.inr z)).getD (.int l.length)) (.int l.length)
    | none => true
  | _ => true
theorem boxF_l (kvs ws : List (Key × Dt)) (d : Dt) : boxF kvs ws d = (lboxF kvs d && arB ws d) := by
  unfold boxF lboxF arB
  cases h : itL d with
  | none => rfl
  | some xs =>
    match xs with
    | [] => rfl
    | [_] => rfl
    | [a, b] => simp
    | [a, f, c] =>
      dsimp only
      cases f with
      | str z =>
        cases hc : itL c with
        | none => simp
        | some l =>
          dsimp only
          generalize isS a = b1
          generalize wordD (.str z) = b2
          generalize eqF a (.str "op") = b3
          generalize decide (1 ≤ l.length ∧ l.length ≤ 4) = b4
          generalize l.all (wireF kvs) = b5
          cases b1 <;> cases b2 <;> cases b3 <;> cases b4 <;> cases b5 <;> simp [hc]
      | _ => simp [wordD]
    | _ :: _ :: _ :: _ :: _ => rfl
def lbR (kvs : List (Key × Dt)) (q : Str) : List Dt → Bool
  | [] => decide (q = "in")
  | [c] => decide (q = "op") && match itL c with
    | some l => decide (1 ≤ l.length ∧ l.length ≤ 4) && l.all (wireF kvs)
    | none => false
  | _ => false
theorem lboxR {kvs : List (Key × Dt)} {d f : Dt} {q : Str} {r : List Dt} (h : itL d = some (.str q :: f :: r)) (hw : wordD f = true) : lboxF kvs d = lbR kvs q r := by
  unfold lboxF
  rw [h]
  match r with
  | [] => show (true && (wordD f && (q == "in"))) = _; rw [hw]; rfl
  | [c] =>
    show (true && (wordD f && ((q == "op") && _))) = _
    rw [hw, Bool.true_and, Bool.true_and]
    rfl
  | _ :: _ :: _ => rfl
theorem lbR_in {kvs : List (Key × Dt)} {f : Dt} (r : List Dt) : lbR kvs "in" r = decide (((.str "in" :: f :: r : List Dt).length : Int) = 2) := by
  match r with
  | [] => rfl
  | [c] =>
    unfold lbR
    rw [show decide (("in" : Str) = "op") = false by decide +kernel]
    rfl
  | a :: b :: r =>
    refine (decide_eq_false ?_).symm
    simp only [List.length_cons]
    omega
theorem lbR_op {kvs : List (Key × Dt)} {q : Str} {r : List Dt} (h1 : ¬ q = "in") (h : q ≠ "op" ∨ ∀ c, r ≠ [c]) : lbR kvs q r = false := by
  match r with
  | [] => exact decide_eq_false h1
  | [c] =>
    rcases h with h | h
    · unfold lbR
      rw [decide_eq_false h]
      rfl
    · exact absurd rfl (h c)
  | _ :: _ :: _ => rfl
theorem w_l_is_box (T : Txt P K mg) : FnOk P w K mg base CX0 12 T.a_l_is_box T.d_l_is_box ["_law_x", "_law_names_here"] (spW K false fun ds P _ => ∃ (d : Dt) (ns : List Str) (kvs : List (Key × Dt)), ds = [d, .lst (ns.map .str)] ∧ (pur d = true ∧ dep d < 12) ∧ (∀ q, (dlk kvs (.inr q)).isSome = decide (q ∈ ns)) ∧ P (.bl (lboxF kvs d))) := by
  refine T.F_l_is_box.ok sc_l_is_box (fun vs H Q E h => w_len 2 h fun _ _ _ ⟨_, _, _, e, _⟩ => by rw [e]; rfl) (fun cdv A outer s H vs Q E hr h => ⟨_, PSs.nox (pss_cons (ps_if (PW.pt (pw_or (pt_not (pt_val (pe_call (w_l_is_list T) (hr.mono (by omega)) rfl T.g_l_is_list T.F_l_is_list.kp T.b_l_is_list .nil pass0 (pa_cons (pv 0) pa_nil)))) (pw_or (pt_cmpR op_lt (pe_callB (u_lenA K) rfl T.n_len (by decide +kernel) (pa_cons (pv 0) pa_nil)) pe_int (nomark _)) (pw_or (pt_not (pt_val (pe_callB (u_isinstance K) rfl T.n_isinstance (by decide +kernel) (pa_cons (pe_ix (uIxA K (hu64 hr)) (pv 0) pe_int (fun _ _ => rfl)) (pa_cons (pe_bltn (v := .ty "str") rfl T.n_str (by decide +kernel) rfl) pa_nil))))) (pw_or1 (pt_not (pt_val (pe_call (w_l_is_word T) (hr.mono (by omega)) rfl T.g_l_is_word T.F_l_is_word.kp T.b_l_is_word .nil pass0 (pa_cons (pe_ix (uIxA K (hu64 hr)) (pv 0) pe_int (fun _ _ => rfl)) pa_nil))))))))) (pss_one (ps_ret pe_bl)) pss_nil) (pss_cons (ps_if (pt_cmpR (uEq K (hu64 hr)) (pe_ix (uIxA K (hu64 hr)) (pv 0) pe_int (fun _ _ => rfl)) pe_str (nomark _)) (pss_one (ps_ret (pe_cmpR (uEq K (hu64 hr)) (pe_callB (u_lenA K) rfl T.n_len (by decide +kernel) (pa_cons (pv 0) pa_nil)) pe_int (nomark _)))) pss_nil) (pss_cons (ps_if (PW.pt (pw_or (pt_cmpR (uNe K (hu64 hr)) (pe_ix (uIxA K (hu64 hr)) (pv 0) pe_int (fun _ _ => rfl)) pe_str (nomark _)) (pw_or (pt_cmpR (uNe K (hu64 hr)) (pe_callB (u_lenA K) rfl T.n_len (by decide +kernel) (pa_cons (pv 0) pa_nil)) pe_int (nomark _)) (pw_or (pt_not (pt_val (pe_call (w_l_is_list T) (hr.mono (by omega)) rfl T.g_l_is_list T.F_l_is_list.kp T.b_l_is_list .nil pass0 (pa_cons (pe_ix (uIxA K (hu64 hr)) (pv 0) pe_int (fun _ _ => rfl)) pa_nil)))) (pw_or1 (pt_not (pt_chain op_lt op_lt pe_int (pe_callB (u_lenA K) rfl T.n_len (by decide +kernel) (pa_cons (pe_ix (uIxA K (hu64 hr)) (pv 0) pe_int (fun _ _ => rfl)) pa_nil)) pe_int))))))) (pss_one (ps_ret pe_bl)) pss_nil) (pss_one (ps_ret (pe_callB (u_allA K rfl) rfl T.n_all (by decide +kernel) (pa_cons (pe_lc (own := [("_law_wire", 2)]) (g := gName 2) rfl sc_l_is_box.nd (pi_anyK (K := K) (pe_ix (uIxA K (hu64 hr)) (pv 0) pe_int (fun _ _ => rfl))) (blkOk_by (N := ["_law_x", "_law_names_here", "_law_wire"]) (sc := defScope s_l_is_box) (by decide +kernel)) (fun _ _ _ _ _ => (pg_name (i := 2) sc_l_is_box.nd rfl (Or.inl rfl))) (fun _ _ _ _ _ => pts_nil) (fun _ _ _ _ _ => (pe_call (w_l_is_wire T) (hr.mono (by omega)) rfl T.g_l_is_wire T.F_l_is_wire.kp T.b_l_is_wire .nil pass0 (pa_cons (pv 2) (pa_cons (pv 1) pa_nil))))) pa_nil))))))), w_start h 3 rfl fun ds P xe ⟨d, ns, kvs, e, ⟨hp, hd⟩, hns, p⟩ => ?_⟩)
  subst e
  refine ⟨Nat.le_of_ble_eq_true rfl, ?_⟩
  refine wd_seq (wd_if (eb_or (eb_not (eb_B (et_call0 nolk (ea_cons (et_var rfl (ea_nil ⟨d, rfl, pur_ok hp, Wv.n2 (fun hl => iteT (wd_ret (et_bl ?_))) fun hl => ?_⟩))))))))
  · have e : lboxF kvs d = false := by unfold lboxF; rw [isL_no hl]
    rw [e] at p
    exact p
  obtain ⟨xs, h⟩ := isL_it hl
  have hm := itL_mem h hp
  refine eb_or (eb_test (et_op rop_lt (et_cb rcl_len (ea_cons (et_var rfl (ea_nil ?_))))))
  rw [itL_len h]
  refine et_int (Wv.b2 (fun hn => iteT (wd_ret (et_bl ?_))) fun hn => ?_)
  · have hn := of_decide_eq_true hn
    have e : lboxF kvs d = false := by
      unfold lboxF
      rw [h]
      match xs, hn with
      | [], _ => rfl
      | [_], _ => rfl
      | _ :: _ :: _, hn => simp at hn; omega
    rw [e] at p
    exact p
  have hn := of_decide_eq_false hn
  obtain ⟨a, f, r, rfl⟩ : ∃ a f r, xs = a :: f :: r := by
    match xs, hn with
    | [], hn => simp at hn
    | [_], hn => simp at hn
    | a :: f :: r, _ => exact ⟨a, f, r, rfl⟩
  have ha := hm a (by simp)
  have hf := hm f (by simp)
  have eX : ∃ X, lboxF kvs d = (isS a && (wordD f && X)) := by
    unfold lboxF
    rw [h]
    match r with
    | [] => exact ⟨_, rfl⟩
    | [c] => exact ⟨_, rfl⟩
    | _ :: _ :: _ => exact ⟨false, by simp⟩
  obtain ⟨X, eX⟩ := eX
  refine eb_or (eb_not (eb_B (et_isStr (et_op rop_ix (et_var rfl (et_int (fx0 h ⟨pur_ok ha.1, Wv.n2 (fun hs => iteT (wd_ret (et_bl ?_))) fun hs => ?_⟩)))))))
  · rw [eX, hs] at p
    exact p
  refine eb_not (eb_B (et_call0 nolk (ea_cons (et_op rop_ix (et_var rfl (et_int (fx1 h (ea_nil ⟨f, rfl, pur_ok hf.1, Wv.n2 (fun hw => wd_ret (et_bl ?_)) fun hw => wd_next ?_⟩))))))))
  · rw [eX, hw, Bool.false_and, Bool.and_false] at p
    exact p
  obtain ⟨q, rfl⟩ : ∃ q, a = .str q := by
    cases a with
    | str q => exact ⟨q, rfl⟩
    | _ => cases hs
  rw [lboxR h hw] at p
  refine wd_seq (wd_if (eb_test (et_op rop_eq (et_op rop_ix (et_var rfl (et_int (fx0 h (et_str (feq_s (Wv.b2 (fun hin => ?_) fun hin => wd_next ?_))))))))))
  · have hin := of_decide_eq_true hin
    refine wd_ret (et_op rop_eq (et_cb rcl_len (ea_cons (et_var rfl (ea_nil ?_)))))
    rw [itL_len h]
    refine et_int (feq_i ?_)
    rw [hin, lbR_in (f := f)] at p
    rw [hin]
    exact p
  have hin := of_decide_eq_false hin
  refine wd_seq (wd_if (eb_or (eb_test (et_op rop_ne (et_op rop_ix (et_var rfl (et_int (fx0 h (et_str (fne_s (Wv.v2 (fun ho => iteT (wd_ret (et_bl ?_))) fun ho => ?_)))))))))))
  · rw [lbR_op hin (.inl (of_decide_eq_false ho))] at p
    exact p
  refine eb_or (eb_test (et_op rop_ne (et_cb rcl_len (ea_cons (et_var rfl (ea_nil ?_))))))
  rw [itL_len h]
  refine et_int (fne_i (Wv.v2 (fun h3 => iteT (wd_ret (et_bl ?_))) fun h3 => ?_))
  · have h3 := of_decide_eq_false h3
    rw [lbR_op hin (.inr fun c e => h3 (by rw [e]; rfl))] at p
    exact p
  have h3 := of_decide_eq_true h3
  obtain ⟨c, rfl⟩ : ∃ c, r = [c] := by
    match r, h3 with
    | [], h3 => simp at h3
    | [c], _ => exact ⟨c, rfl⟩
    | _ :: _ :: _, h3 => simp at h3; omega
  have hc := hm c (by simp)
  have p : P (.bl (decide (q = "op") && match itL c with
    | some l => decide (1 ≤ l.length ∧ l.length ≤ 4) && l.all (wireF kvs)
    | none => false)) := p
  rw [show decide (q = "op") = true from ho, Bool.true_and] at p
  refine eb_or (eb_not (eb_B (et_call0 nolk (ea_cons (et_op rop_ix (et_var rfl (et_int (fx2 h (ea_nil ⟨c, rfl, pur_ok hc.1, Wv.n2 (fun hcl => iteT (wd_ret (et_bl ?_))) fun hcl => ?_⟩)))))))))
  · rw [isL_no hcl] at p
    exact p
  obtain ⟨l, h4⟩ := isL_it hcl
  have hm3 := itL_mem h4 hc.1
  rw [h4] at p
  have p : P (.bl (decide (1 ≤ l.length ∧ l.length ≤ 4) && l.all (wireF kvs))) := p
  have no : ¬ (1 ≤ l.length ∧ l.length ≤ 4) → P (.bl false) := fun hn => by
    rw [decide_eq_false hn] at p
    exact p
  refine eb_not (eb_test (et_chain rop_lt rop_lt (et_int (et_cb rcl_len (ea_cons (et_op rop_ix (et_var rfl (et_int (fx2 h (ea_nil ?_)))))))))) 
  rw [itL_len h4]
  refine Wv.b2 (fun h1 => et_int (Wv.n2 (fun h5 => wd_ret (et_bl (no fun hh => of_decide_eq_false h5 (by omega)))) fun h5 => wd_next ?_)) fun h1 => Wv.nf rfl (wd_ret (et_bl (no fun hh => of_decide_eq_false h1 (by omega))))
  have h1 := of_decide_eq_true h1
  have h5 := of_decide_eq_true h5
  rw [decide_eq_true (show 1 ≤ l.length ∧ l.length ≤ 4 by omega), Bool.true_and] at p
  refine wd_ret (et_allY (wireF kvs) (ei_seq (et_op rop_ix (et_var rfl (et_int (fx2 h ?_))))))
  rw [itL_it h4]
  exact ⟨nown_of rfl (by intro d z; cases z), fun x hx => et_call0 nolk (ea_cons (et_var rfl (ea_cons (et_var rfl (ea_nil ⟨x, ns, kvs, rfl, ⟨(hm3 x hx).1, by have := (hm3 x hx).2; omega⟩, hns, rfl, rfl⟩))))), p⟩
end
end Lw
/-! enumerate of a list; an own list handed to a def that may change it. -/
namespace Wv
open PySem PySem.Spec PyProof.Rows L2 Evl
section
variable {g : Gx} {c : Cc} {H H1 H' : Hp} {σ : L2.St} {env : List Sl} {PL : List Dt → List Sl → Prop} {so : Option Addr} {A : Addr → Prop} {K : PySem.W.Frag}
def enumD (ds : List Dt) : List Dt := ds.mapIdx fun i d => .tup [.int (i : Int), d]
theorem enumD_len (ds : List Dt) : (enumD ds).length = ds.length := by unfold enumD; rw [List.length_mapIdx]
theorem enumD_get {ds : List Dt} {i : Nat} {d : Dt} (h : (enumD ds)[i]? = some d) : ∃ x, ds[i]? = some x ∧ d = .tup [.int (i : Int), x] := by
  unfold enumD at h
  rw [List.getElem?_mapIdx] at h
  cases e : ds[i]? with
  | none => rw [e] at h; cases h
  | some x => rw [e] at h; cases h; exact ⟨x, rfl, rfl⟩
theorem wk_enum {a : Addr} {ds : List Dt} (r : Rv so A H1 (.ref a) (.lst ds)) : Wk so A (L2.Ite K a) (enumD ds) H1 := by
  obtain ⟨a', xs, e1, ho1, h1, rs1, hz1⟩ := lst_rv r
  cases e1
  have sq1 : ∀ H', Ko A A H1 H' → SqL K H' a xs := fun H' k => .inl (.inl (k.keep1 ho1 h1 fun _ z => nomatch z))
  have l1 := rs1.1
  have hl := enumD_len ds
  refine ⟨by omega, fun i H' hi k => ⟨xs, xs[i]'(by omega), sq1 H' k, by simp⟩, fun H' k => ⟨xs, sq1 H' k, by omega⟩, fun O' i H' x H'' hi k n1 n2 ⟨T, u, ex, hT, e, y1⟩ => ?_⟩
  subst ex e
  have hi1 : i < ds.length := by omega
  have hu := y1 xs (sq1 H' k)
  refine ⟨Ex.new hT, .tup [.int (i : Int), ds[i]], by unfold enumD; rw [List.getElem?_mapIdx]; simp [hi1], ?_⟩
  have ru : Rv so O' H' u ds[i] := (rs1.2 i u ds[i] hu (by simp [hi1])).later k n1
  exact new_tup n2 hT (Rvs.cons (.int _) (Rvs.cons ru Rvs.nil)) (Nat.le_of_ble_eq_true rfl)
theorem ei_enum {ta : TA} (h : Ea g env ta fun ds e => ∃ xs, ds = [.lst xs] ∧ PL (enumD xs) e) : Ei g env (L2.iEnum g.K ta) PL := fun c L σ H S R q =>
  h c L σ H S _ fun vs ds e H1 ⟨xs, e0, p⟩ S1 l k r => by
    subst e0
    obtain ⟨x, rfl, r1⟩ := one_rv r
    obtain ⟨a, us, rfl, _, h1, _⟩ := lst_rv r1
    exact ⟨a, us, rfl, .inl (.inl h1), q _ _ e H1 p S1 l k (wk_enum r1)⟩
/-- what an own object was is changed: the rest stands -/
theorem Sv.dead {p : Addr} (hB : c.B p = none) (hs : SO c) (S : Sv g.K (c.add p) H1 σ env) (k : Ko (fun b => Chg c.so c.cc b ∨ b = p) (fun _ => True) H1 H') (st : Stt g.K c.so c.cc H') (th : ∀ a, H1 a ≠ none → H' a ≠ none) : Sv g.K c H' σ env := by
  have hO : ∀ a, (Chg c.so c.cc a ∨ a = p) → (c.add p).O a := fun a z => z.elim (fun z => .inl (hs a z).1) .inr
  have m : ∀ a, Av c σ env a → Av (c.add p) σ env a := fun a h => Av.add.mpr (.inl h)
  have kA : Ko (Av (c.add p) σ env) (fun _ => True) H1 H' := k.mono (fun a z => .inl (hO a z)) fun _ z => z
  refine ⟨⟨⟨fun a o n h => ?_, fun a z => th a (S.base.2 a z)⟩, S.lkb, hs, fun a h => th a (S.dom a (.inl h)), st⟩, S.len, S.uniq, fun i d h => ?_, fun i d h => ?_⟩
  · have hne : a ≠ p := fun q => by rw [q, hB] at h; cases h
    rcases S.base.1 a o n h with z | ⟨z, kvs, od, rfl, z2⟩
    · rcases k.1 a o (fun q => q.elim n hne) z with w | ⟨w, _⟩
      · exact .inl w
      · exact absurd trivial w
    · rcases k.1 a _ (fun q => q.elim n hne) z2 with w | ⟨w, _⟩
      · exact .inr ⟨fun q => z (q.imp id .inl), kvs, od, rfl, w⟩
      · exact absurd trivial w
  · obtain ⟨x, h1, h2⟩ := S.tree i d h
    exact ⟨x, h1, (h2.keep kA).mono m⟩
  · obtain ⟨x, h1, h2, h3, h4⟩ := S.own i d h
    refine ⟨x, h1, h2, fun z => h3 (.inl z), (h4.keep kA (k.same (fun q => q.elim (fun q => h3 (.inl (hs x q).1)) fun q => h3 (.inr q)) trivial h4.some)).mono m⟩
/-- a def that may change the list that it is handed, flat answer -/
def spDead (K : PySem.W.Frag) (R : Dt → (Dt → Prop) → Prop) : Sp := fun vs H Q E => ∃ (so : Option Addr) (cc : Ct) (O : Addr → Prop) (a : Addr) (d : Dt) (Pd : Dt → Prop),
  vs = [.ref a] ∧ (¬ O a ∧ H a ≠ none ∧ ∀ b, Chg so cc b → O b) ∧ Hb K ⟨fun b => if b = a then none else H b, so, cc, O, false, false⟩ H ∧ Ol so (fun b => O b ∨ b = a) H a d ∧ R d Pd ∧
  ∀ x t H', Pd t → scl t = true → Rv so O H' x t → Ko (fun b => Chg so cc b ∨ b = a) (fun _ => True) H H' → Stt K so cc H' → Q x H'
theorem et_dead {R : Dt → (Dt → Prop) → Prop} {E : XK} {te : TE} {P : Dt → List Sl → Prop} (h : Ef g env te fun d e1 => R d fun t => P t e1) : Et g env (tCall (spDead g.K R) [] E (tCons te tNil)) P := fun c L σ H S Q q =>
  h c L σ H S _ fun a d e1 H1 r S1 l k hn o => by
    have hs := S.sO
    have na := nav_add S S1 hn
    have hB : c.B a = none := base_none S hn
    have S0 := S1.less hs
    refine ⟨c.so, c.cc, Av c σ e1, a, d, _, rfl, ⟨na, o.some, fun b z => .inl (hs b z).1⟩, ?_, o.mono (fun b z => Av.add.mpr z), r, fun x t H' p sc rx kk st => ?_⟩
    · have b := Hb.av (g := g) (lk := false) S0
      refine ⟨⟨fun b o n h => ?_, fun b h => ?_⟩, id, b.sO, b.dom, b.stt⟩
      · have h : (if b = a then none else H1 b) = some o := h
        split at h
        · cases h
        · exact .inl h
      · have h : (if b = a then none else H1 b) ≠ none := h
        by_cases e : b = a
        · rw [e]; exact o.some
        · rw [if_neg e] at h; exact h
    · have S2 := S1.dead (g := g) hB hs kk st kk.2
      refine q x t e1 H' p S2 l ?_ (rx.scal sc)
      refine ⟨fun b u n hb => ?_, fun b z => kk.2 b (k.2 b z)⟩
      have hne : b ≠ a := fun e => by rw [e, hn] at hb; cases hb
      have hnc : ¬ Chg c.so c.cc b := fun z => n (.inl z)
      rcases k.1 b u n hb with z | ⟨z, kvs, od, rfl, z2⟩
      · rcases kk.1 b u (fun q => q.elim hnc hne) z with w | ⟨w, _⟩
        · exact .inl w
        · exact absurd trivial w
      · rcases kk.1 b _ (fun q => q.elim hnc hne) z2 with w | ⟨w, _⟩
        · exact .inr ⟨z, kvs, od, rfl, w⟩
        · exact absurd trivial w
theorem dead_start {R : Dt → (Dt → Prop) → Prop} {N : List Str} {vs : List V} {Q : VK} {E : XK} {t : TS} (h : spDead K R vs H Q E) (n : Nat) (hN : N.length = n + 1)
    (hw : ∀ d Pd, R d Pd → Wd ⟨K, E, fun _ _ => False, false, []⟩ (.own d :: List.replicate n .no) t { nx := fun _ => Pd .non, rt := fun t => Pd t ∧ scl t = true }) : t { nx := fun _ H' => Q .non H', rt := Q } (L2.start N vs) H := by
  obtain ⟨so, cc, O, a, d, Pd, rfl, ⟨hO, hH, hc⟩, hb, o, hR, hQ⟩ := h
  have e0 : ∀ (i : Nat) (e : Dt), (Sl.own d :: List.replicate n .no)[i]? = some (Sl.own e) → i = 0 ∧ e = d := fun i e z => by
    match i, z with
    | 0, z => cases z; exact ⟨rfl, rfl⟩
    | i + 1, z =>
      rw [List.getElem?_cons_succ, List.getElem?_replicate] at z
      split at z <;> cases z
  have ev : ∀ (i : Nat) (e : Dt), (Sl.own d :: List.replicate n .no)[i]? ≠ some (Sl.v e) := fun i e z => by
    match i, z with
    | 0, z => cases z
    | i + 1, z =>
      rw [List.getElem?_cons_succ, List.getElem?_replicate] at z
      split at z <;> cases z
  have s0 : (L2.start N [V.ref a])[0]? = some (some (V.ref a)) := rfl
  have ow : ∀ b, Ow (L2.start N [V.ref a]) (Sl.own d :: List.replicate n .no) b → b = a := fun b ⟨i, e, z1, z2⟩ => by
    obtain ⟨rfl, _⟩ := e0 i e z1
    rw [s0] at z2
    cases z2
    rfl
  have av : ∀ b, Av ⟨fun b => if b = a then none else H b, so, cc, O, false, false⟩ (L2.start N [V.ref a]) (Sl.own d :: List.replicate n .no) b → O b ∨ b = a := fun b z => z.imp id (ow b)
  have mv : ∀ b, Mv ⟨fun b => if b = a then none else H b, so, cc, O, false, false⟩ (L2.start N [V.ref a]) (Sl.own d :: List.replicate n .no) b → Chg so cc b ∨ b = a := fun b z => z.imp id (ow b)
  refine hw d Pd hR ⟨fun b => if b = a then none else H b, so, cc, O, false, false⟩ ⟨rfl, fun C fs z => z.elim, .inl rfl⟩ (L2.start N [V.ref a]) H ⟨hb, ?_, fun i j d1 d2 b z1 z2 _ _ => (e0 i d1 z1).1.trans (e0 j d2 z2).1.symm, fun i e z => absurd z (ev i e), fun i e z => ?_⟩ _
    (fun σ' H' e' S' f p => hQ .non .non H' p rfl .non (f.1.mono mv fun _ _ => .inl rfl) S'.stt) (fun _ _ _ _ _ z => z.elim) (fun _ _ _ _ _ z => z.elim) fun x t H' p hb k r => hQ x t H' p.1 p.2 r (k.mono mv fun _ _ => .inl rfl) hb.stt
  · unfold L2.start
    simp [hN]
  · obtain ⟨rfl, rfl⟩ := e0 i e z
    exact ⟨a, s0, if_pos rfl, hO, o.mono av⟩
end
end Wv
namespace Lw
open PySem PySem.Spec PyProof.Rows L2 Evl Wv
/-! ### the law's own look for rings -/
/-- wires that are pairs are tuples -/
def twW : Dt → Bool
  | .lst [_, _] => false
  | _ => true
def twB (d : Dt) : Bool := match itL d with
  | some [_, _, c] => match itL c with
    | some l => l.all twW
    | none => true
  | _ => true
def rawC (d : Dt) : Dt := match itL d with
  | some [_, _, c] => c
  | _ => .lst []
def rawL (d : Dt) : List Dt := (itL (rawC d)).getD []
theorem raw_all {nm ws : List (Key × Dt)} {d : Dt} (h : boxF nm ws d = true) (ht : twB d = true) : itL (rawC d) = some (rawL d) ∧ edB d = (rawL d).filterMap edW ∧ (rawL d).length ≤ 4 ∧ ∀ x ∈ rawL d, ∃ (q : Str) (b : Dt) (ts : List Dt), x = .tup [.str q, b] ∧ itL b = some ts ∧ ts.length ≤ ts.length := by
  rcases boxF_inv h with ⟨z, h, hz⟩ | ⟨z, c, l, h, hz, hc, hl, hw, hq⟩
  · have e : rawC d = .lst [] := by unfold rawC; rw [h]
    have e2 : rawL d = [] := by unfold rawL; rw [e]; rfl
    rw [e, e2]
    exact ⟨rfl, by unfold edB; rw [h]; rfl, Nat.zero_le _, fun x hx => by cases hx⟩
  · have e : rawC d = c := by unfold rawC; rw [h]
    have e2 : rawL d = l := by unfold rawL; rw [e, hc]; rfl
    have ht : l.all twW = true := by
      unfold twB at ht
      rw [h] at ht
      dsimp only at ht
      rw [hc] at ht
      exact ht
    rw [e, e2]
    refine ⟨hc, ?_, hl.2, fun x hx => ?_⟩
    · unfold edB
      rw [h]
      dsimp only
      rw [hc]
    · obtain ⟨q, b, ts, h1, h2, h3, h4⟩ := wireF_inv (hw x hx)
      have ht := List.all_eq_true.mp ht x hx
      refine ⟨q, b, ts, ?_, h3, Nat.le_refl _⟩
      cases x with
      | tup ys => cases h1; rfl
      | lst ys => cases h1; cases ht
      | _ => cases h1
def nzW (d : Dt) : Bool := (edW d).isSome
def nmW (d : Dt) : Dt := .str ((edW d).getD "")
theorem edW_map : ∀ l : List Dt, (l.filter nzW).map nmW = (l.filterMap edW).map Dt.str
  | [] => rfl
  | a :: l => by
    rw [List.filter_cons, List.filterMap_cons]
    unfold nzW
    cases e : edW a with
    | none => exact edW_map l
    | some q =>
      show List.map nmW (a :: List.filter nzW l) = _
      rw [List.map_cons, edW_map l]
      unfold nmW
      rw [e]
      rfl
section
variable {P : Program} {w : World} {K : PySem.W.Frag} {mg : Str → Option Value} {base : Heap}
theorem w_l_wires (T : Txt P K mg) : FnOk P w K mg base CX0 1 T.a_wires T.d_wires ["_law_box"] (spW K false (R1 (fun d => ∃ nm ws, boxF nm ws d = true) rawC)) := by
  refine T.F_wires.ok sc_wires (fun vs H Q E h => w_len 1 h fun _ _ _ ⟨_, e, _⟩ => by rw [e]; rfl) (fun cdv A outer s H vs Q E hr h => ⟨_, PSs.nox (pss_one (ps_ret (pe_ifExp (pt_cmpR (uEq K (hu64 hr)) (pe_ix (uIxA K (hu64 hr)) (pv 0) pe_int (fun _ _ => rfl)) pe_str (nomark _)) (pe_ix (uIxA K (hu64 hr)) (pv 0) pe_int (fun _ _ => rfl)) (pe_lst pa_nil)))), w_start h 1 rfl fun ds Pd xe ⟨d, e, ⟨nm, ws, hb⟩, p⟩ => ?_⟩)
  subst e
  refine ⟨Nat.le_of_ble_eq_true rfl, ?_⟩
  rcases boxF_inv hb with ⟨z, h, hz⟩ | ⟨z, c, l, h, hz, hc, hl, hw, hq⟩
  · have e : rawC d = .lst [] := by unfold rawC; rw [h]
    rw [e] at p
    refine wd_ret (et_if (eb_test (et_op rop_eq (et_op rop_ix (et_var rfl (et_int (fx0 h (et_str (feq_s (Wv.bf (by decide +kernel) ?_))))))))))
    exact Ef.et (ef_lst (ea_nil ⟨Nat.zero_le _, p⟩))
  · have e : rawC d = c := by unfold rawC; rw [h]
    rw [e] at p
    refine wd_ret (et_if (eb_test (et_op rop_eq (et_op rop_ix (et_var rfl (et_int (fx0 h (et_str (feq_s (Wv.bt (by decide +kernel) ?_))))))))))
    exact et_op rop_ix (et_var rfl (et_int (fx2 h p)))
open Classical in
def ROnr : Rd3 := fun ds Pd _ => ∃ (kvs bt : List (Key × Dt)) (n : Str), ds = [.dct kvs, .str n] ∧ (Pass kvs bt ∧ (kvs.map (·.1)).Nodup ∧ kvs.length ≤ 64 ∧ ∀ kv ∈ kvs, twB kv.2 = true) ∧ n ∈ nsOf kvs ∧ Pd (.bl (decide (Rch (bxOf bt) true n n)))
/-- all that is found is reached, all that the first box reaches is found -/
structure OnR (bx : Str → List Wi) (ns : List Str) (n : Str) (t : Nat) (L : List Str) : Prop where
  r : ∀ m ∈ L, Rch bx true n m
  b : ∀ m ∈ edg bx true n, m ∈ L
  nd : t = 0 ∨ L.Nodup
  len : L.length ≤ 64
  go : (∀ m ∈ L, ∀ e ∈ edg bx true m, e ∈ L) ∨ t ≤ L.length
theorem OnR.next {bx : Str → List Wi} {ns : List Str} {n : Str} {t : Nat} {L D : List Str} (h : OnR bx ns n t L) (c : Clo ns bx) (hn : n ∈ ns) (hl : ns.length ≤ 64) (nd : D.Nodup) (hm : ∀ m, m ∈ D ↔ m ∈ L ∨ ∃ o ∈ L, m ∈ edg bx true o) : OnR bx ns n (t + 1) D := by
  have hr : ∀ m ∈ D, Rch bx true n m := fun m hmd => by
    rcases (hm m).mp hmd with h1 | ⟨o, ho, h1⟩
    · exact h.r m h1
    · exact .step (h.r o ho) h1
  refine ⟨hr, fun m h1 => (hm m).mpr (.inl (h.b m h1)), .inr nd, Nat.le_trans (nd_len nd fun m h1 => (hr m h1).inns c hn) hl, ?_⟩
  by_cases hc : ∀ m ∈ L, ∀ e ∈ edg bx true m, e ∈ L
  · refine .inl fun m h1 e h2 => ?_
    have : m ∈ L := by
      rcases (hm m).mp h1 with h1 | ⟨o, ho, h1⟩
      · exact h1
      · exact hc o ho m h1
    exact (hm e).mpr (.inl (hc m this e h2))
  · obtain ⟨m, hm1⟩ := Classical.not_forall.mp hc
    obtain ⟨hm2, hm3⟩ := Classical.not_imp.mp hm1
    obtain ⟨e, he1⟩ := Classical.not_forall.mp hm3
    obtain ⟨he2, he3⟩ := Classical.not_imp.mp he1
    have heD : e ∈ D := (hm e).mpr (.inr ⟨m, hm2, he2⟩)
    refine .inr ?_
    rcases h.go with h1 | h1
    · exact absurd h1 hc
    · rcases h.nd with h0 | h0
      · have := List.length_pos_of_mem heD
        omega
      · have := nd_len (List.nodup_cons.mpr ⟨he3, h0⟩) (ns := D) fun a ha => by
          rcases List.mem_cons.mp ha with ha | ha
          · rw [ha]; exact heD
          · exact (hm a).mpr (.inl ha)
        rw [List.length_cons] at this
        omega
theorem OnR.done {bx : Str → List Wi} {ns : List Str} {n : Str} {L : List Str} (h : OnR bx ns n ns.length L) (c : Clo ns bx) (hn : n ∈ ns) (m : Str) : m ∈ L ↔ Rch bx true n m := by
  have hc : ∀ m ∈ L, ∀ e ∈ edg bx true m, e ∈ L := by
    rcases h.go with h1 | h1
    · exact h1
    · have h0 : L.Nodup := h.nd.resolve_left (by have := List.length_pos_of_mem hn; omega)
      have hall := all_inN h0 (fun m hm => (h.r m hm).inns c hn) h1
      exact fun m hm e he => hall e (edg_in c ((h.r m hm).inns c hn) he)
  exact ⟨h.r m, fun h2 => Rch.of_closed h.b hc h2⟩
open Classical in
theorem w_is_on_ring (T : Txt P K mg) : FnOk P w K mg base CX0 3 T.a_is_on_ring T.d_is_on_ring ["_law_boxes", "_law_name"] (spW K false ROnr) := by
  refine T.F_is_on_ring.ok sc_is_on_ring (fun vs H Q E h => w_len 2 h fun _ _ _ ⟨_, _, _, e, _⟩ => by rw [e]; rfl) (fun cdv A outer s H vs Q E hr h => ⟨_, PSs.nox (pss_cons (ps_set (i := 2) sc_is_on_ring.nd rfl (Or.inr rfl) (pe_lc (own := [("_law_p", 5), ("_law_firsts", 6)]) (g := gTup K 2 (gCons (gName 5) (gCons (gName 6) gNil))) rfl sc_is_on_ring.nd (pi_anyK (K := K) (pe_call (w_l_wires T) (hr.mono (by omega)) rfl T.g_wires T.F_wires.kp T.b_wires .nil pass0 (pa_cons (pe_ix (uIxA K (hu64 hr)) (pv 0) (pv 1) (fun _ _ => rfl)) pa_nil))) (blkOk_by (N := ["_law_boxes", "_law_name", "_law_found", "_law_turn", "_law_other", "_law_p", "_law_firsts", "_law_k"]) (sc := defScope s_is_on_ring) (by decide +kernel)) (fun _ _ _ _ _ => (pg_tupK (K := K) (n := 2) rfl (pgs_cons (pg_name (i := 5) sc_is_on_ring.nd rfl (Or.inl rfl)) (pgs_cons (pg_name (i := 6) sc_is_on_ring.nd rfl (Or.inl rfl)) pgs_nil)))) (fun _ _ _ _ _ => (pts_one (pt_cmpR (uEq K (hu64 hr)) (pe_callB (u_lenA K) rfl T.n_len (by decide +kernel) (pa_cons (pv 6) pa_nil)) pe_int (nomark _)))) (fun _ _ _ _ _ => (pv 5)))) (pss_cons (ps_for PassesOwn.never rfl (pi_range1 rfl T.n_range (pa_cons (pe_callB (u_lenA K) rfl T.n_len (by decide +kernel) (pa_cons (pv 0) pa_nil)) pa_nil)) (pg_name (i := 3) sc_is_on_ring.nd rfl (Or.inl rfl)) (pss_cons (ps_for PassesOwn.never rfl (pi_anyK (K := K) (pe_callTy (u_listA K rfl) rfl T.n_list (by decide +kernel) (pa_cons (pv 2) pa_nil))) (pg_name (i := 4) sc_is_on_ring.nd rfl (Or.inl rfl)) (pss_one (ps_set (i := 2) sc_is_on_ring.nd rfl (Or.inr rfl) (pe_op (uAdd K) (pv 2) (pe_lc (own := [("_law_p", 5), ("_law_firsts", 6)]) (g := gTup K 2 (gCons (gName 5) (gCons (gName 6) gNil))) rfl sc_is_on_ring.nd (pi_anyK (K := K) (pe_call (w_l_wires T) (hr.mono (by omega)) rfl T.g_wires T.F_wires.kp T.b_wires .nil pass0 (pa_cons (pe_ix (uIxA K (hu64 hr)) (pv 0) (pv 4) (fun _ _ => rfl)) pa_nil))) (blkOk_by (N := ["_law_boxes", "_law_name", "_law_found", "_law_turn", "_law_other", "_law_p", "_law_firsts", "_law_k"]) (sc := defScope s_is_on_ring) (by decide +kernel)) (fun _ _ _ _ _ => (pg_tupK (K := K) (n := 2) rfl (pgs_cons (pg_name (i := 5) sc_is_on_ring.nd rfl (Or.inl rfl)) (pgs_cons (pg_name (i := 6) sc_is_on_ring.nd rfl (Or.inl rfl)) pgs_nil)))) (fun _ _ _ _ _ => (pts_one (pt_cmpR (uEq K (hu64 hr)) (pe_callB (u_lenA K) rfl T.n_len (by decide +kernel) (pa_cons (pv 6) pa_nil)) pe_int (nomark _)))) (fun _ _ _ _ _ => (pv 5))))))) (pss_one (ps_set (i := 2) sc_is_on_ring.nd rfl (Or.inr rfl) (pe_lc (own := [("_law_k", 7), ("_law_other", 4)]) (g := gTup K 2 (gCons (gName 7) (gCons (gName 4) gNil))) rfl sc_is_on_ring.nd (pi_enum rfl T.n_enumerate (pa_cons (pv 2) pa_nil)) (blkOk_by (N := ["_law_boxes", "_law_name", "_law_found", "_law_turn", "_law_other", "_law_p", "_law_firsts", "_law_k"]) (sc := defScope s_is_on_ring) (by decide +kernel)) (fun _ _ _ _ _ => (pg_tupK (K := K) (n := 2) rfl (pgs_cons (pg_name (i := 7) sc_is_on_ring.nd rfl (Or.inl rfl)) (pgs_cons (pg_name (i := 4) sc_is_on_ring.nd rfl (Or.inl rfl)) pgs_nil)))) (fun _ _ _ _ _ => (pts_one (pt_cmpR (uNiA K (hu64 hr)) (pv 4) (pe_slice (uSlA K) (pv 2) po_none (po_some (pv 7))) (by with_unfolding_all rfl)))) (fun _ _ _ _ _ => (pv 4))))))) (pss_one (ps_ret (pe_cmpR (uInA K (hu64 hr)) (pv 1) (pv 2) (by with_unfolding_all rfl)))))), w_start h 8 rfl fun ds Pd xe ⟨kvs, bt, n, e, ⟨p, nd, hsz, htw⟩, hn, hp⟩ => ?_⟩)
  subst e
  refine ⟨Nat.le_of_ble_eq_true rfl, ?_⟩
  have C := p.clo nd
  have hnl : (nsOf kvs).length = kvs.length := by unfold nsOf; rw [List.length_map]
  obtain ⟨bx, ebx⟩ : ∃ bx, bx = bxOf bt := ⟨_, rfl⟩
  have at_ : ∀ m ∈ nsOf kvs, ∃ v nm ws, dlk kvs (.inr m) = some v ∧ boxF nm ws v = true ∧ itL (rawC v) = some (rawL v) ∧ edg bx true m = (rawL v).filterMap edW ∧ (rawL v).length ≤ 4 ∧ ∀ x ∈ rawL v, ∃ (q : Str) (b : Dt) (ts : List Dt), x = .tup [.str q, b] ∧ itL b = some ts := fun m hm => by
    obtain ⟨v, ws, h1, h2, _⟩ := p.at nd hm
    obtain ⟨r1, r2, r3, r4⟩ := raw_all h2 (htw _ (dlk_mem h1))
    refine ⟨v, _, ws, h1, h2, r1, by rw [ebx, p.edg nd h1, r2], r3, fun x hx => ?_⟩
    obtain ⟨q, b, ts, a, b', _⟩ := r4 x hx
    exact ⟨q, b, ts, a, b'⟩
  rw [← ebx] at hp C
  obtain ⟨v, nm, ws, h1, h2, r1, r2, r3, r4⟩ := at_ n hn
  refine wd_seq (wd_asg (Ef.et (ef_map2 (by decide) nzW nmW (ei_seq (et_call0 nolk (ea_cons (et_op rop_ix (et_var rfl (et_var rfl ⟨v, h1, ea_nil (r1_i ⟨nm, ws, h2⟩ ?_)⟩)))))))))
  rw [itL_it r1]
  refine ⟨nown_no rfl, nown_no rfl, fun d hd => ?_, ?_⟩
  · obtain ⟨q, b, ts, rfl, hb⟩ := r4 d hd
    refine ⟨_, _, rfl, eb_test (et_op rop_eq (et_cb rcl_len (ea_cons (et_var rfl (ea_nil ?_)))))⟩
    rw [itL_len hb]
    refine et_int (feq_i ?_)
    rw [isB_bl]
    refine ⟨rfl, ?_, fun hz => et_var rfl ⟨rfl, ?_⟩⟩
    · unfold nzW edW
      show _ = Option.isSome (match itL b with | some [] => some q | _ => none)
      rw [hb]
      cases ts with
      | nil => rfl
      | cons t ts => exact decide_eq_false (by simp only [List.length_cons]; omega)
    · unfold nzW at hz
      unfold nmW
      have : edW (.tup [.str q, b]) = some q := by
        unfold edW at hz ⊢
        have hz : Option.isSome (match itL b with | some [] => some q | _ => none) = true := hz
        show (match itL b with | some [] => some q | _ => none) = _
        rw [hb] at hz ⊢
        cases ts with
        | nil => rfl
        | cons t ts => cases hz
      rw [this]
      rfl
  rw [edW_map, ← r2]
  refine wd_seq (wd_for (ei_rng1 (ea_cons (et_cb rcl_len (ea_cons (et_var rfl (ea_nil (lenDct (ea_nil ?_)))))))))
  have hrl : (rngD 0 ((kvs.length : Int)).toNat).length = kvs.length := by rw [rngD_len]; omega
  refine ⟨_, rfl, by simp only [Zz]; omega, by omega, fun t e => ∃ (L : List Str) (s3 s4 s7 : Sl), e = [.v (.dct kvs), .v (.str n), .v (.lst (L.map .str)), s3, s4, .no, .no, .no] ∧ (∀ d, s4 ≠ .own d) ∧ OnR bx (nsOf kvs) n t L, ⟨_, .no, .no, .no, rfl, (fun _ z => nomatch z), fun m hm => .one hm, fun m hm => hm, .inl rfl, ?_, .inr (Nat.zero_le _)⟩, ?_, ?_⟩
  · rw [r2]
    have := List.length_filterMap_le edW (rawL v)
    omega
  · rintro t d e ht ⟨L, s3, s4, s7, rfl, h4, hL⟩
    have hLn : ∀ m ∈ L, m ∈ nsOf kvs := fun m hm => (hL.r m hm).inns C hn
    have hll := hL.len
    refine tg_name (wd_seq (wd_for (ei_seq (Ef.et (ef_cb rcf_list (et_var rfl ?_))))))
    refine ⟨fun i e => ∃ (F : List Str) (s3 s4 : Sl), e = [.v (.dct kvs), .v (.str n), .v (.lst (F.map .str)), s3, s4, .no, .no, .no] ∧ (∀ d, s4 ≠ .own d) ∧ (∀ m, m ∈ F ↔ m ∈ L ∨ ∃ o ∈ L.take i, m ∈ edg bx true o) ∧ F.length ≤ L.length + 4 * i, ⟨L, _, _, rfl, h4, fun m => ⟨.inl, fun h => h.elim id fun ⟨o, ho, _⟩ => by cases ho⟩, Nat.le_refl _⟩, ?_, ?_⟩
    · rintro i d e hi ⟨F, s3, s4, rfl, _, hF, hFl⟩
      obtain ⟨o, rfl, ho⟩ := strAtN hi
      have hoL := List.mem_of_getElem? ho
      have hil : i < L.length := (List.getElem?_eq_some_iff.mp ho).1
      obtain ⟨v, nm, ws, h1, h2, r1, r2, r3, r4⟩ := at_ o (hLn o hoL)
      have htk : L.take (i + 1) = L.take i ++ [o] := by rw [List.take_add_one, ho]; rfl
      refine tg_name (wd_asg (et_op rop_add (et_var rfl (Ef.et (ef_map2 (by decide) nzW nmW (ei_seq (et_call0 nolk (ea_cons (et_op rop_ix (et_var rfl (et_var rfl ⟨v, h1, ea_nil (r1_i ⟨nm, ws, h2⟩ ?_)⟩)))))))))))
      rw [itL_it r1]
      refine ⟨nown_no rfl, nown_no rfl, fun d hd => ?_, ?_⟩
      · obtain ⟨q, b, ts, rfl, hb⟩ := r4 d hd
        refine ⟨_, _, rfl, eb_test (et_op rop_eq (et_cb rcl_len (ea_cons (et_var rfl (ea_nil ?_)))))⟩
        rw [itL_len hb]
        refine et_int (feq_i ?_)
        rw [isB_bl]
        refine ⟨rfl, ?_, fun hz => et_var rfl ⟨rfl, ?_⟩⟩
        · unfold nzW edW
          show _ = Option.isSome (match itL b with | some [] => some q | _ => none)
          rw [hb]
          cases ts with
          | nil => rfl
          | cons t ts => exact decide_eq_false (by simp only [List.length_cons]; omega)
        · unfold nzW at hz
          unfold nmW
          have : edW (.tup [.str q, b]) = some q := by
            unfold edW at hz ⊢
            have hz : Option.isSome (match itL b with | some [] => some q | _ => none) = true := hz
            show (match itL b with | some [] => some q | _ => none) = _
            rw [hb] at hz ⊢
            cases ts with
            | nil => rfl
            | cons t ts => cases hz
          rw [this]
          rfl
      rw [edW_map, ← r2]
      have hel : (edg bx true o).length ≤ 4 := by
        rw [r2]
        have := List.length_filterMap_le edW (rawL v)
        omega
      refine ⟨?_, F ++ edg bx true o, _, .v (.str o), by rw [List.map_append]; rfl, (fun _ z => nomatch z), fun m => ?_, by rw [List.length_append]; omega⟩
      · rw [List.length_map, List.length_map]
        simp only [Zz]
        omega
      · rw [List.mem_append, hF, htk]
        constructor
        · rintro ((h | ⟨o', ho', h⟩) | h)
          · exact .inl h
          · exact .inr ⟨o', List.mem_append_left _ ho', h⟩
          · exact .inr ⟨o, List.mem_append_right _ (List.mem_singleton.mpr rfl), h⟩
        · rintro (h | ⟨o', ho', h⟩)
          · exact .inl (.inl h)
          · rcases List.mem_append.mp ho' with ho' | ho'
            · exact .inl (.inr ⟨o', ho', h⟩)
            · rw [List.mem_singleton.mp ho'] at h
              exact .inr h
    · rintro e ⟨F, s3, s4, rfl, h4, hF, hFl⟩
      rw [List.length_map, List.take_length] at hF
      rw [List.length_map] at hFl
      refine wd_asg (Ef.et (ef_lc2 (by decide) (ei_enum (ea_cons (et_var rfl (ea_nil ⟨_, rfl, ?_⟩))))))
      have FL : F.length ≤ Zz := by simp only [Zz]; omega
      refine ⟨nown_no rfl, nown_of rfl h4, fun k acc => ∃ D : List Str, acc = D.map .str ∧ D.Nodup ∧ ∀ m, m ∈ D ↔ m ∈ F.take k, ⟨[], rfl, List.nodup_nil, fun m => Iff.rfl⟩, ?_, ?_⟩
      · rintro k dk acc hk ⟨D, rfl, hnd, hD⟩
        obtain ⟨x, hx, rfl⟩ := enumD_get hk
        obtain ⟨o, rfl, ho⟩ := strAtN hx
        have htk : F.take (k + 1) = F.take k ++ [o] := by rw [List.take_add_one, ho]; rfl
        refine ⟨_, _, rfl, eb_test (et_op rop_ni (et_var rfl (et_sl (et_var rfl (eo_none (eo_some (et_var rfl ⟨_, rfl, slL ?_⟩)))))))⟩
        rw [ctD_to, ← List.map_take]
        refine fni_s ?_
        rw [isB_bl]
        refine ⟨rfl, ?_⟩
        by_cases h : o ∈ F.take k
        · rw [decide_eq_true h]
          refine iteF ⟨D, rfl, hnd, fun m => ?_⟩
          rw [hD, htk, List.mem_append, List.mem_singleton]
          exact ⟨.inl, fun z => z.elim id fun z => by rw [z]; exact h⟩
        · rw [decide_eq_false h]
          refine iteT (et_var rfl ⟨rfl, D ++ [o], by rw [List.map_append]; rfl, List.nodup_append.mpr ⟨hnd, by simp, fun a ha b hb e => ?_⟩, fun m => ?_⟩)
          · rw [List.mem_singleton.mp hb] at e
            rw [e, hD] at ha
            exact h ha
          · rw [htk, List.mem_append, List.mem_append, hD]
      · rintro acc ⟨D, rfl, hnd, hD⟩
        rw [enumD_len, List.length_map, List.take_length] at hD
        refine ⟨D, _, _, .no, rfl, h4, hL.next C hn (by omega) hnd fun m => (hD m).trans (hF m)⟩
  · rintro e ⟨L, s3, s4, s7, rfl, _, hL⟩
    rw [hrl, ← hnl] at hL
    refine wd_ret (et_op rop_in (et_var rfl (et_var rfl (fin_s ?_))))
    rw [show decide (n ∈ L) = decide (Rch bx true n n) from decide_eq_decide.mpr (hL.done C hn n)]
    exact hp
end
end Lw
/-! for k, x in enumerate(d), d a dict (locked from then on). -/
namespace Ek
open PySem PySem.Spec PyProof.Rows L2
section
variable {prog : Program} {w : World} {A : Around} {E : Value → Shared → Prop} {s : Shared}
theorem nextOf_key_item {it d : Addr} {i n ep : Nat} {od : Obj} {es : Array DictEntry} {en : DictEntry} {Q : Value → Shared → Prop} (hit : s.heap.IsKeyIter it d i n ep) (hod : s.heap.get? d = some od) (hdd : od.data = .dict es ep)
    (hsz : es.size = n) (hx : es[i]? = some en) (hQ : ∀ h', h'.IsKeyIter it d (i + 1) n ep → Heap.SameBut it s.heap h' → Q en.key { s with heap := h' }) : wpAny (model prog w) A (Builtin.SmallTypes.nextOf (.ref it)) Q E s := by
  obtain ⟨o, ho, hc, hd⟩ := id hit
  unfold Builtin.SmallTypes.nextOf
  refine wpAny_bind (wpAny_callSpecial?_slot (name := Str.ofString "__next__") hit.typeIs F.slot_dict_keyiterator_next
    (wpAny_call_entry F.slot_dict_keyiterator_next hit.typeIs F.entry_dict_keyiterator_next ?_ (F.args_dict_keyiterator_next_1 _)))
  refine wpAny_bind (wpAny_pure ?_)
  refine wpAny_bind ?_
  refine wpAny_bind ?_
  first | refine wpAny_bind (wpAny_typeNameOfWhole_keyiter hit.typeIs (wpAny_pure ?_)) | refine wpAny_bind (wpAny_typeNameOf_keyiter hit.typeIs (wpAny_pure ?_))
  refine wpAny_bind (wpAny_fieldsOf ho hd ?_)
  have hown : Builtin.Dict_items.ownsTuple "dict_keyiterator" = false := by decide
  simp only [hown, Bool.false_eq_true, if_false]
  show wpAny _ _ (if (Value.ref d == Value.none) = true then _ else _) _ _ s
  rw [if_neg (show ¬ ((Value.ref d == Value.none) = true) from Bool.false_ne_true)]
  refine wpAny_bind (wpAny_pure ?_)
  refine wpAny_bind (wpAny_dictEntries hod hdd ?_)
  rw [if_neg (by rw [hsz]; simp)]
  refine wpAny_bind (wpAny_pure ?_)
  refine wpAny_bind (wpAny_dictEpoch hod hdd ?_)
  rw [if_neg (by simp)]
  refine wpAny_pure ?_
  obtain ⟨hlt', hen⟩ := Array.getElem?_eq_some_iff.mp hx
  simp only [show ¬ ((i : Int) < 0) from by omega, if_false, Int.toNat_natCast, Array.getElem?_eq_getElem hlt']
  refine wpAny_bind ?_
  first | refine wpAny_bind (wpAny_typeNameOfWhole_keyiter hit.typeIs (wpAny_pure ?_)) | refine wpAny_bind (wpAny_typeNameOf_keyiter hit.typeIs (wpAny_pure ?_))
  refine wpAny_bind (wpAny_isOneOf_keyiter hit.typeIs ?_)
  show wpAny _ _ (setField (.ref it) 1 (rawInt ((i : Int) + 1)) >>= _) _ _ s
  refine wpAny_bind (wpAny_setField ho hd (by simp) ?_)
  have hit' : (s.heap.update it (Obj.mapFields (·.setIfInBounds 1 (rawInt ((i : Int) + 1))))).IsKeyIter it d (i + 1) n ep :=
    ⟨_, Heap.get?_update_self _ ho (Obj.isFreed_of_fields (Obj.data_mapFields hd _)), (Obj.cls_mapFields ..).trans hc, by rw [Obj.data_mapFields hd]; simp [rawInt]⟩
  refine wpAny_bind (wpAny_holding ?_)
  refine wpAny_bind (wpAny_isOneOf_keyiter (s := { s with heap := s.heap.update it (Obj.mapFields (·.setIfInBounds 1 (rawInt ((i : Int) + 1)))) }) hit'.typeIs ?_)
  show wpAny _ _ (pure es[i].key) _ _ _
  rw [hen]
  exact wpAny_pure (wpAny_pure ⟨_, rfl, wpAny_pure (hQ _ hit' (Heap.SameBut.update ..))⟩)
theorem nextOf_key_end {it d : Addr} {i n ep : Nat} {od : Obj} {es : Array DictEntry} {Q : Value → Shared → Prop} (hh : A.handled = none) (hit : s.heap.IsKeyIter it d i n ep) (hod : s.heap.get? d = some od) (hdd : od.data = .dict es ep)
    (hsz : es.size = n) (hge : n ≤ i) (hE : ∀ h' e, Heap.ExtBut it s.heap h' → (∃ o, h'.get? e = some o ∧ o.cls = .type "StopIteration") → E (.ref e) { s with heap := h' }) : wpAny (model prog w) A (Builtin.SmallTypes.nextOf (.ref it)) Q E s := by
  obtain ⟨o, ho, hc, hd⟩ := id hit
  unfold Builtin.SmallTypes.nextOf
  refine wpAny_bind (wpAny_callSpecial?_slot (name := Str.ofString "__next__") hit.typeIs F.slot_dict_keyiterator_next
    (wpAny_call_entry F.slot_dict_keyiterator_next hit.typeIs F.entry_dict_keyiterator_next ?_ (F.args_dict_keyiterator_next_1 _)))
  refine wpAny_bind (wpAny_pure ?_)
  refine wpAny_bind ?_
  refine wpAny_bind ?_
  first | refine wpAny_bind (wpAny_typeNameOfWhole_keyiter hit.typeIs (wpAny_pure ?_)) | refine wpAny_bind (wpAny_typeNameOf_keyiter hit.typeIs (wpAny_pure ?_))
  refine wpAny_bind (wpAny_fieldsOf ho hd ?_)
  have hown : Builtin.Dict_items.ownsTuple "dict_keyiterator" = false := by decide
  simp only [hown, Bool.false_eq_true, if_false]
  show wpAny _ _ (if (Value.ref d == Value.none) = true then _ else _) _ _ s
  rw [if_neg (show ¬ ((Value.ref d == Value.none) = true) from Bool.false_ne_true)]
  refine wpAny_bind (wpAny_pure ?_)
  refine wpAny_bind (wpAny_dictEntries hod hdd ?_)
  rw [if_neg (by rw [hsz]; simp)]
  refine wpAny_bind (wpAny_pure ?_)
  refine wpAny_bind (wpAny_dictEpoch hod hdd ?_)
  rw [if_neg (by simp)]
  refine wpAny_pure ?_
  have hge' : es.size ≤ i := by rw [hsz]; exact hge
  simp only [show ¬ ((i : Int) < 0) from by omega, if_false, Int.toNat_natCast, Array.getElem?_eq_none hge']
  refine wpAny_bind ?_
  first | refine wpAny_bind (wpAny_typeNameOfWhole_keyiter hit.typeIs (wpAny_pure ?_)) | refine wpAny_bind (wpAny_typeNameOf_keyiter hit.typeIs (wpAny_pure ?_))
  show wpAny _ _ (setField (.ref it) 0 .none >>= _) _ _ s
  refine wpAny_bind (wpAny_setField ho hd (by simp) ?_)
  show wpAny _ _ (newExc (.type "StopIteration") [] >>= _) _ _ _
  refine wpAny_bind ?_
  simp only [newExc, newTuple]
  refine wpAny_bind (wpAny_newObj_type ?_ (by size_fits))
  refine wpAny_bind (m := firstArgMember _ _) (wpAny_of_eq (a := Value.none) (by first | rfl | (simp only [firstArgMember]; rfl)) ?_)
  refine wpAny_newObj_type ?_ (by size_fits)
  simp only [raiseNew]
  refine wpAny_bind (wpAny_handled ?_)
  first | rw [show A.in1.handled = none from hh] | rw [hh]
  refine wpAny_bind (wpAny_pure (wpAny_throw ?_))
  exact hE _ _ (((Heap.SameBut.update ..).extBut.push _).push _) ⟨_, Heap.get?_push_size _ rfl, rfl⟩
end
theorem draws {prog : Program} {w : World} {A : Around} (hh : A.handled = none) (it d : Addr) (hne : d ≠ it) {o : Obj} {es : Array DictEntry} {ep : Nat} (hdd : o.data = .dict es ep) :
    Draws prog w A it [it, d] es.size (fun i v => ∃ en, es[i]? = some en ∧ v = en.key) (fun i h => h.IsKeyIter it d i es.size ep ∧ h.get? d = some o) where
  live := fun _ _ st => let ⟨o, ho, _⟩ := st.1; ⟨o, ho⟩
  frame := fun _ _ _ st hk => ⟨st.1.at fun o e => hk it (by simp) o e, hk d (by simp) o st.2⟩
  item := fun i s Q E hi st hQ => nextOf_key_item st.1 st.2 hdd rfl (en := es[i]) (by simp [hi]) fun h' hit' hs' => hQ _ h' s.toks ⟨es[i], by simp [hi], rfl⟩ ⟨hit', (hs'.2 d hne).trans st.2⟩ hs'
  done := fun s Q E st hE => nextOf_key_end hh st.1 st.2 hdd rfl (Nat.le_refl _) hE
theorem begins {d : Addr} {o : Obj} {es : Array DictEntry} {ep : Nat} (hd : (d == sysModules) = false) (hc : o.ExactDict) (hdd : o.data = .dict es ep) :
    Begins (.ref d) { cls := .type "dict_keyiterator", data := .fields #[.ref d, .int 0 0, .int es.size 0, .int ep 0] } fun h => h.get? d = some o where
  iter := fun prog w A E s Q ho h => iter_keys hd ho hc hdd h
  keeps := fun h h' x hk => hk d o x
  free := rfl
end Ek
namespace L2
open PySem PySem.Spec PyProof.Rows
/-- the keys of the locked dict at d, each in a new pair with its place -/
def ItEk (d : Addr) (o : Obj) (kvs : List (Key × V)) : It :=
  ⟨fun i H => H d = some (.frz o (.dK kvs)) ∧ i < kvs.length, fun i H x H' => ∃ T k v, x = .ref T ∧ H T = none ∧ H' = upd H T (.tup [.int (i : Nat), kV k]) ∧ kvs[i]? = some (k, v), fun i H => H d = some (.frz o (.dK kvs)) ∧ kvs.length = i⟩
theorem turn_enumK {P : Program} {w : World} {K : PySem.W.Frag} {elts : List Expr} {kk : Nat} {tpos : Pos} {o : Obj} {kvs : List (Key × V)} {es : Array DictEntry} {ep : Nat} (d e it : Addr) (hod : o.data = .dict es ep) (hl : es.size = kvs.length) :
    Turn P w K (.Tuple elts kk tpos) (ItEk d o kvs) [e, it] e (fun i h => (∃ old, IsEnum h e it ((i : Nat) : Int) old) ∧ h.IsKeyIter it d i es.size ep ∧ e ≠ it ∧ d ≠ it ∧ d ≠ e) where
  mem := by simp
  obj := fun i h st b hb => by
    obtain ⟨⟨old, he⟩, ⟨o, ho, hc, hd⟩, _⟩ := st
    have e' : b = e ∨ b = it := by simpa using hb
    rcases e' with z | z
    · rw [z]; exact ⟨_, he, fun v q => nomatch q⟩
    · rw [z]; exact ⟨o, ho, fun v q => by rw [hd] at q; cases q⟩
  keep := fun i h h' st k => let ⟨⟨old, he⟩, hi, hne, h2, h3⟩ := st; ⟨⟨old, k e (by simp) _ he⟩, hi.at fun o q => k it (by simp) o q, hne, h2, h3⟩
  item := by
    intro X hP hw hK hc i pins s σ H E I hf st hg
    subst hP hw hK
    obtain ⟨⟨old, he⟩, hit, hne, hdi, hde⟩ := st
    obtain ⟨hd, hi⟩ := hg
    obtain ⟨hs, hgd, hx, es', ep', vs, hdt, hsz, kv, hm⟩ := I.frzK hd
    obtain ⟨rfl, rfl⟩ := dict_ep hod hdt
    obtain ⟨⟨k, v⟩, hkv⟩ : ∃ p, kvs[i]? = some p := ⟨kvs[i], List.getElem?_eq_getElem hi⟩
    obtain ⟨u, hu, ru⟩ := kv_get kv hkv
    have hel : e < s.heap.objs.size := Heap.lt_size he
    have hil : it < s.heap.objs.size := by obtain ⟨_, q, _⟩ := hit; exact Heap.lt_size q
    have hef : e ∉ [it, d] := by simp [hne, Ne.symm hde]
    refine wpAny_pyNext_enum_itemD (St := fun i h => h.IsKeyIter it d i es'.size ep' ∧ h.get? d = some o) (Ek.draws (A := X.A.in1) (I.ok.hd hc) it d hdi hod) he ⟨hit, hgd⟩ (by omega) hne hef fun x h' tk hp ho hst hT hsz' hk => ?_
    refine ⟨_, rfl, wpAny_letOwnedTupleGo_enum (s := { s with heap := h', toks := tk + 1 }) ho fun h'' he' sb => ?_⟩
    have rx : RelV (kV k) x := by
      obtain ⟨en, hen, rfl⟩ := hp
      obtain ⟨od, es2, z1, z2, z3, z4, z5, z6⟩ := id hm
      rw [hgd] at z1
      cases z1
      obtain ⟨e1, e2⟩ := dict_ep hod z3
      subst e1
      exact relV_key (z5.get? (e := en) (by rw [Array.getElem?_toList]; exact hen) hu).1
    have hT2 : h''.get? s.heap.objs.size = some { cls := .type "tuple", data := .seq #[.int i tk, x] } := (sb.2 _ (Nat.ne_of_gt hel)).trans hT
    have new : ObjOk X.prog X.w (upd H s.heap.objs.size (.tup [.int (i : Nat), kV k])) h'' s.heap.objs.size (.tup [.int (i : Nat), kV k]) :=
      ⟨by show 2 ≤ sizeLine; decide, [.int i tk, x], .cons ⟨_, rfl⟩ (.cons rx .nil), ⟨_, hT2, rfl, _, rfl⟩⟩
    have I1 : Inv X pins σ (upd H s.heap.objs.size (.tup [.int (i : Nat), kV k])) { s with heap := h'', toks := tk + 1 } :=
      I.turnedNew (ch := [e, it]) (fun b ob hb q => (sb.2 b (fun z => hb (by simp [z]))).trans (hk b ob (fun z => hb (by simp [z])) (fun z => hb (by simp [z])) q)) hf (Nat.le_refl _) new
    refine ⟨.ref s.heap.objs.size, _, I1, rfl, ⟨_, k, v, rfl, I.hok.fresh (Nat.le_refl _), rfl, hkv⟩, ⟨⟨x, ?_⟩, hst.1.at fun o q => (sb.2 it (Ne.symm hne)).trans q, hne, hdi, hde⟩, fun b hb => ?_⟩
    · have e1 : ((i + 1 : Nat) : Int) = (i : Int) + 1 := by omega
      rw [e1]; exact he'
    · have hb' : b < s.heap.objs.size := by
        have e' : b = e ∨ b = it := by simpa using hb
        rcases e' with z | z <;> (rw [z]; assumption)
      rw [upd_ne (Nat.ne_of_lt hb')]
      exact (hf b hb).1
  done := by
    intro X hP hw hK hc i pins s σ H E I hf st hg
    subst hP hw hK
    obtain ⟨⟨old, he⟩, hit, hne, hdi, hde⟩ := st
    obtain ⟨hd, hi⟩ := hg
    obtain ⟨hs, hgd, hx, es', ep', vs, hdt, hsz, kv, hm⟩ := I.frzK hd
    obtain ⟨rfl, rfl⟩ := dict_ep hod hdt
    obtain ⟨f0, f1, f2, f3, f4, f5⟩ := hf it (by simp)
    have hn : es'.size = i := by omega
    exact wpAny_pyNext_enum_endD (St := fun i h => h.IsKeyIter it d i es'.size ep' ∧ h.get? d = some o) (Ek.draws (A := X.A.in1) (I.ok.hd hc) it d hdi hod) he (by rw [hn]; rw [hn] at hit; exact ⟨hit, hgd⟩) fun h' eb => ⟨rfl, I.turned (t' := s.toks) (fun b o hb q => eb b o hb q) f0 f1 f3 f4 f5⟩
  self := fun A i s Q E st h => let ⟨⟨_, he⟩, _⟩ := st; wpAny_pyIter_enum he h
/-- enumerate of a list, or of a dict that is locked from then on -/
def iEnumA (K : PySem.W.Frag) (ta : TA) : TI := fun σ H R => ta σ H fun vs H1 => (∃ a xs, vs = [.ref a] ∧ SqL K H1 a xs ∧ R (Ite K a) H1) ∨ (∃ d od kvs, vs = [.ref d] ∧ H1 d = some (.frz od (.dK kvs)) ∧ R (ItEk d od kvs) H1) ∨
  ∃ d kvs, vs = [.ref d] ∧ H1 d = some (.dK kvs) ∧ ∀ od, R (ItEk d od kvs) (upd H1 d (.frz od (.dK kvs)))
theorem enum_lk {X : Cx} {pins : List (Addr × Obj)} {σ : St} {H1 : Hp} {s1 : Shared} {R : It → Hp → Prop} {elts : List Expr} {kk : Nat} {tpos : Pos} {d : Addr} {od : Obj} {kvs : List (Key × V)} (I1 : Inv X pins σ H1 s1) (hd : H1 d = some (.frz od (.dK kvs))) (q : R (ItEk d od kvs) H1) :
    wpAny (model X.prog X.w) X.A (call (.type "enumerate") [.ref d]) (fun v s => wpAny (model X.prog X.w) X.A (pyIter v) (PIE X pins σ (.Tuple elts kk tpos) R) X.xe s) X.xe s1 := by
  obtain ⟨hs, hgd, hx, es, ep, vs, hdt, hsz, kv, hm⟩ := I1.frzK hd
  have hlt : d < s1.heap.objs.size := Heap.lt_size hgd
  refine Et.begins (Ek.begins hs hx hdt) hgd fun h' he hit hsz' hk => wpAny_pyIter_enum he ?_
  have I2 : Inv X pins σ H1 { s1 with heap := h' } := I1.kept (t' := s1.toks) hk
  refine ⟨s1.heap.objs.size + 1, [s1.heap.objs.size + 1, s1.heap.objs.size], _, _, H1, rfl, I2, turn_enumK d (s1.heap.objs.size + 1) s1.heap.objs.size hdt hsz, ⟨⟨.none, he⟩, ⟨_, hit, rfl, rfl⟩, Nat.succ_ne_self _, Nat.ne_of_lt hlt, Nat.ne_of_lt (Nat.lt_succ_of_lt hlt)⟩, fun b hb => ?_, q⟩
  have e' : b = s1.heap.objs.size + 1 ∨ b = s1.heap.objs.size := by simpa using hb
  have hle : s1.heap.objs.size ≤ b := by
    rcases e' with z | z
    · rw [z]; exact Nat.le_add_right _ _
    · rw [z]; exact Nat.le_refl _
  exact I1.fpOk hle (I1.hok.fresh hle)
theorem pi_enumA {X : Cx} {e : Expr} {ta : TA} {p pos tpos : Pos} {elts : List Expr} {kk : Nat} (hg : Gl X "enumerate") (hm : X.mg "enumerate" = none) (ha : PA X [e] ta) (hs : starEach [e] X.env = [(false, eval e X.env)] := by rfl) :
    PI X (.Tuple elts kk tpos) (.Call (.Name "enumerate" p) [e] [] pos) (iEnumA X.K ta) := by
  refine ⟨fun pins s σ H R I h => ?_⟩
  refine Call_ (ld_blt I hg hm boot_enumerate (PyProof.Rows.callWith_type1 (thn (ha.run pos pins s σ H _ I h) fun us s1 ⟨vs, H1, I1, r1, q1⟩ => ?_) hs rfl))
  rcases q1 with ⟨a, xs, ex, hq, q⟩ | ⟨d, od, kvs, ex, hd, q⟩ | ⟨d, kvs, ex, hd, q⟩
  · subst ex
    cases r1 with
    | cons r rr =>
      cases rr
      cases r
      obtain ⟨its, rv, p, hz⟩ := I1.list hq
      refine call_enumerate_list p.isList fun h' he hit hsz hk => wpAny_pyIter_enum he ?_
      have I2 : Inv X pins σ H1 { s1 with heap := h' } := I1.kept (t' := s1.toks) hk
      refine ⟨s1.heap.objs.size + 1, [s1.heap.objs.size + 1, s1.heap.objs.size], _, _, H1, rfl, I2, turn_enum a (s1.heap.objs.size + 1) s1.heap.objs.size, ⟨⟨.none, he⟩, hit, Nat.succ_ne_self _⟩, fun b hb => ?_, q⟩
      have e' : b = s1.heap.objs.size + 1 ∨ b = s1.heap.objs.size := by simpa using hb
      have hle : s1.heap.objs.size ≤ b := by
        rcases e' with z | z
        · rw [z]; exact Nat.le_add_right _ _
        · rw [z]; exact Nat.le_refl _
      exact I1.fpOk hle (I1.hok.fresh hle)
  · subst ex
    cases r1 with
    | cons r rr =>
      cases rr
      obtain rfl : _ = Value.ref d := r
      exact enum_lk I1 hd q
  · subst ex
    cases r1 with
    | cons r rr =>
      cases rr
      obtain rfl : _ = Value.ref d := r
      obtain ⟨od, I2⟩ := I1.lock hd trivial
      exact enum_lk I2 upd_same (q od)
end L2
namespace Wv
open PySem PySem.Spec PyProof.Rows L2 Evl
section
variable {g : Gx} {c : Cc} {H H1 H' : Hp} {σ : L2.St} {env : List Sl} {PL : List Dt → List Sl → Prop} {so : Option Addr} {A : Addr → Prop} {K : PySem.W.Frag}
theorem wk_enumK {a : Addr} {od : Obj} {xs : List (Key × V)} {kvs : List (Key × Dt)} (ho : ¬ A a) (h : H1 a = some (.frz od (.dK xs))) (hk : xs.map (·.1) = kvs.map (·.1)) (hz : kvs.length ≤ Zz) (hs : ∀ kv ∈ kvs, ∀ z, kv.1 = Sum.inr z → z.length ≤ Zz) :
    Wk so A (L2.ItEk a od xs) (enumD (kvs.map fun kv => kDt kv.1)) H1 := by
  have hl : xs.length = kvs.length := by have := congrArg List.length hk; simpa using this
  have hel : (enumD (kvs.map fun kv => kDt kv.1)).length = kvs.length := by rw [enumD_len, List.length_map]
  have at_ : ∀ H', Ko A A H1 H' → H' a = some (.frz od (.dK xs)) := fun H' k => k.keep1 ho h fun _ z => nomatch z
  refine ⟨by omega, fun i H' hi k => ⟨at_ H' k, by omega⟩, fun H' k => ⟨at_ H' k, by omega⟩, fun O' i H' x H'' hi k n1 n2 ⟨T, k', v, ex, hT, e, hkv⟩ => ?_⟩
  subst ex e
  have e1 : (xs.map (·.1))[i]? = some k' := by rw [List.getElem?_map, hkv]; rfl
  rw [hk, List.getElem?_map] at e1
  cases e2 : kvs[i]? with
  | none => rw [e2] at e1; cases e1
  | some q =>
    rw [e2] at e1
    cases e1
    refine ⟨Ex.new hT, .tup [.int (i : Int), kDt q.1], by unfold enumD; rw [List.getElem?_mapIdx, List.getElem?_map, e2]; rfl, ?_⟩
    have hq := hs q (List.mem_of_getElem? e2)
    have ru : Rv so O' H' (kV q.1) (kDt q.1) := by
      cases e3 : q.1 with
      | inl i => exact .int i
      | inr z => exact .str (hq z e3)
    exact new_tup n2 hT (Rvs.cons (.int _) (Rvs.cons ru Rvs.nil)) (Nat.le_of_ble_eq_true rfl)
theorem ei_enumL {ta : TA} (h : Ea g env ta fun ds e => ∃ xs, ds = [.lst xs] ∧ PL (enumD xs) e) : Ei g env (L2.iEnumA g.K ta) PL := fun c L σ H S R q =>
  h c L σ H S _ fun vs ds e H1 ⟨xs, e0, p⟩ S1 l k r => by
    subst e0
    obtain ⟨x, rfl, r1⟩ := one_rv r
    obtain ⟨a, us, rfl, _, h1, _⟩ := lst_rv r1
    exact .inl ⟨a, us, rfl, .inl (.inl h1), q _ _ e H1 p S1 l k (wk_enum r1)⟩
theorem ei_enumD {ta : TA} (hgl : g.lk = true) (h : Ea g env ta fun ds e => ∃ kvs, ds = [.dct kvs] ∧ (∀ kv ∈ kvs, ∀ z, kv.1 = .inr z → z.length ≤ Zz) ∧ PL (enumD (kvs.map fun kv => kDt kv.1)) e) : Ei g env (L2.iEnumA g.K ta) PL := fun c L σ H S R q =>
  have hl : c.lk = true := L.1.symm.trans hgl
  h c L σ H S _ fun vs ds e H1 ⟨kvs, e0, hs, p⟩ S1 l k r => by
    subst e0
    obtain ⟨x, rfl, r1⟩ := one_rv r
    obtain ⟨a, xs, rfl, ho, h0, tb, hz⟩ := dct_rv r1
    rcases h0 with h0 | ⟨od, h0⟩
    · exact .inr (.inr ⟨a, xs, rfl, h0, fun od => q _ _ e _ p (S1.lock hl ho h0).1 l (k.trans ((S1.lock hl ho h0).2.le l)) (wk_enumK ho upd_same tb.1 hz hs)⟩)
    · exact .inr (.inl ⟨a, od, xs, rfl, h0, q _ _ e H1 p S1 l k (wk_enumK ho h0 tb.1 hz hs)⟩)
end
end Wv
namespace Lw
open PySem PySem.Spec PyProof.Rows L2 Evl Wv
/-! ### how the making of a net is to end -/
def NE.due : NE → Dt
  | .boxes d => .tup [.str "boxes", d]
  | .box k => .tup [.str "box", k]
  | .outputs d => .tup [.str "outputs", d]
  | .output k => .tup [.str "output", k]
  | .ring n => .tup [.str "ring", .str n]
  | .net _ _ => .tup [.str "told", .non]
theorem lboxF_inv {nm : List (Key × Dt)} {d : Dt} (h : lboxF nm d = true) : (∃ z, itL d = some [.str "in", .str z]) ∨ ∃ z c l, itL d = some [.str "op", .str z, c] ∧ itL c = some l ∧ l.length ≤ 4 := by
  unfold lboxF at h
  cases e : itL d with
  | none => rw [e] at h; cases h
  | some xs =>
    rw [e] at h
    match xs, h with
    | [a, b], h =>
      simp only [Bool.and_eq_true] at h
      obtain ⟨h1, h2, h3⟩ := h
      obtain ⟨q, rfl⟩ : ∃ q, a = .str q := by cases a <;> first | exact ⟨_, rfl⟩ | cases h1
      obtain ⟨z, rfl⟩ : ∃ z, b = .str z := by cases b <;> first | exact ⟨_, rfl⟩ | cases h2
      have : q = "in" := eq_of_beq h3
      subst this
      exact .inl ⟨z, rfl⟩
    | [a, f, c], h =>
      simp only [Bool.and_eq_true] at h
      obtain ⟨h1, h2, h3, h4⟩ := h
      obtain ⟨q, rfl⟩ : ∃ q, a = .str q := by cases a <;> first | exact ⟨_, rfl⟩ | cases h1
      obtain ⟨z, rfl⟩ : ∃ z, f = .str z := by cases f <;> first | exact ⟨_, rfl⟩ | cases h2
      have : q = "op" := eq_of_beq h3
      subst this
      cases e2 : itL c with
      | none => rw [e2] at h4; cases h4
      | some l =>
        rw [e2] at h4
        simp only [Bool.and_eq_true, decide_eq_true_eq] at h4
        exact .inr ⟨z, c, l, rfl, e2, h4.1.2⟩
/-- the words among the names -/
def wdL (kvs : List (Key × Dt)) : List Str := kvs.filterMap fun kv => if wordD (kDt kv.1) = true then some (unK kv.1) else none
theorem wdL_map (kvs : List (Key × Dt)) : ((kvs.map fun kv => kDt kv.1).filter wordD).map id = (wdL kvs).map Dt.str := by
  rw [List.map_id]
  unfold wdL
  induction kvs with
  | nil => rfl
  | cons a l ih =>
    rw [List.map_cons, List.filter_cons, List.filterMap_cons]
    cases h : wordD (kDt a.1) with
    | false => exact ih
    | true =>
      obtain ⟨k, v⟩ := a
      cases k with
      | inl i => cases h
      | inr z =>
        simp only [if_true]
        rw [List.map_cons, ih]
        rfl
theorem wdL_nm (kvs : List (Key × Dt)) (q : Str) : (dlk (nmF kvs) (.inr q)).isSome = decide (q ∈ wdL kvs) := by
  have h := wdL_map kvs
  rw [List.map_id] at h
  unfold nmF
  rw [h, nmF_fold]
  show (decide (q ∈ wdL kvs) || false) = _
  rw [Bool.or_false]
theorem Pass.wdL {kvs bt : List (Key × Dt)} (p : Pass kvs bt) (q : Str) : (dlk bt (.inr q)).isSome = decide (q ∈ Lw.wdL kvs) := by
  rw [dlk_ks p.bt_ks, ← wdL_nm, nmF_ok p.ks p.wd]
theorem wd_tag {g : Gx} {env : List Sl} {E : De} {tag : Str} {i : Nat} {d : Dt} (he : env[i]? = some (.v d)) (h : E.rt (.tup [.str tag, d])) (hz : tag.length ≤ Zz := by decide) : Wd g env (tRet (tTup (tCons (tC (.str tag)) (tCons (tVar i) tNil)))) E :=
  wd_ret (et_tup (ea_cons (et_str (ea_cons (et_var he (ea_nil ⟨Nat.le_of_ble_eq_true rfl, h⟩))) hz)))
section
variable {P : Program} {w : World} {K : PySem.W.Frag} {mg : Str → Option Value} {base : Heap}
def dctL (d : Dt) (f : List (Key × Dt) → Prop) : Prop := match d with
  | .dct kvs => f kvs
  | _ => True
def RDue : Rd3 := fun ds Pd _ => ∃ bd od, ds = [bd, od] ∧ PreN 12 bd ∧ PreN 10 od ∧ dctL bd (fun kvs => kvs.length ≤ 64 ∧ ∀ kv ∈ kvs, twB kv.2 = true) ∧ dctL od (fun kvs => kvs.length ≤ 64) ∧ Pd (neF bd od).due
open Classical in
theorem w_made_due (T : Txt P K mg) : FnOk P w K mg base CX0 14 T.a_made_due T.d_made_due ["_law_boxes", "_law_outputs"] (spW K true RDue) := by
  refine T.F_made_due.ok sc_made_due (fun vs H Q E h => w_len 2 h fun _ _ _ ⟨_, _, e, _⟩ => by rw [e]; rfl) (fun cdv A outer s H vs Q E hr h => ⟨_, PSs.nox (pss_cons (ps_if (pt_not (pt_val (pe_callB (u_isinstance K) rfl T.n_isinstance (by decide +kernel) (pa_cons (pv 0) (pa_cons (pe_bltn (v := .ty "dict") rfl T.n_dict (by decide +kernel) rfl) pa_nil))))) (pss_one (ps_ret (pe_tup (pa_cons pe_str (pa_cons (pv 0) pa_nil))))) pss_nil) (pss_cons (ps_par (i := 3) (j := 4) rfl sc_made_due.nd rfl rfl (by decide) rfl rfl (pa_cons (pe_lc (own := [("_law_name", 2)]) (g := gName 2) rfl sc_made_due.nd (pi_anyK (K := K) (pv 0)) (blkOk_by (N := ["_law_boxes", "_law_outputs", "_law_name", "_law_names_here", "_law_arities", "_law_f", "_law_many", "_law_k"]) (sc := defScope s_made_due) (by decide +kernel)) (fun _ _ _ _ _ => (pg_name (i := 2) sc_made_due.nd rfl (Or.inl rfl))) (fun _ _ _ _ _ => (pts_one (pt_val (pe_call (w_l_is_word T) (hr.mono (by omega)) rfl T.g_l_is_word T.F_l_is_word.kp T.b_l_is_word .nil pass0 (pa_cons (pv 2) pa_nil))))) (fun _ _ _ _ _ => (pv 2))) (pa_cons pe_dnewK pa_nil)) rfl rfl) (pss_cons (ps_for PassesOwn.never rfl (pi_anyK (K := K) (pv 0)) (pg_name (i := 2) sc_made_due.nd rfl (Or.inl rfl)) (pss_cons (ps_if (PW.pt (pw_or (pt_not (pt_val (pe_call (w_l_is_word T) (hr.mono (by omega)) rfl T.g_l_is_word T.F_l_is_word.kp T.b_l_is_word .nil pass0 (pa_cons (pv 2) pa_nil)))) (pw_or1 (pt_not (pt_val (pe_call (w_l_is_box T) (hr.mono (by omega)) rfl T.g_l_is_box T.F_l_is_box.kp T.b_l_is_box .nil pass0 (pa_cons (pe_ix (uIxA K (hu64 hr)) (pv 0) (pv 2) (fun _ _ => rfl)) (pa_cons (pv 3) pa_nil)))))))) (pss_one (ps_ret (pe_tup (pa_cons pe_str (pa_cons (pv 2) pa_nil))))) pss_nil) (pss_one (ps_if (pt_cmpR (uEq K (hu64 hr)) (pe_ix (uIxA K (hu64 hr)) (pe_ix (uIxA K (hu64 hr)) (pv 0) (pv 2) (fun _ _ => rfl)) pe_int (fun _ _ => rfl)) pe_str (nomark _)) (pss_cons (ps_par (i := 5) (j := 6) rfl sc_made_due.nd rfl rfl (by decide) rfl rfl (pa_cons (pe_ix (uIxA K (hu64 hr)) (pe_ix (uIxA K (hu64 hr)) (pv 0) (pv 2) (fun _ _ => rfl)) pe_int (fun _ _ => rfl)) (pa_cons (pe_callB (u_lenA K) rfl T.n_len (by decide +kernel) (pa_cons (pe_ix (uIxA K (hu64 hr)) (pe_ix (uIxA K (hu64 hr)) (pv 0) (pv 2) (fun _ _ => rfl)) pe_int (fun _ _ => rfl)) pa_nil)) pa_nil)) rfl rfl) (pss_cons (ps_if (pt_cmpR (uNe K (hu64 hr)) (pe_dget2 (hu_of hr) (pv 4) (pv 5) (pv 6) ⟨rfl, rfl, rfl, rfl⟩) (pv 6) (nomark _)) (pss_one (ps_ret (pe_tup (pa_cons pe_str (pa_cons (pv 2) pa_nil))))) pss_nil) (pss_one (ps_dput (hu_of hr) (pv 4) (pv 5) (pv 6) rfl)))) pss_nil)))) (pss_cons (ps_if (pt_not (pt_val (pe_callB (u_isinstance K) rfl T.n_isinstance (by decide +kernel) (pa_cons (pv 1) (pa_cons (pe_bltn (v := .ty "dict") rfl T.n_dict (by decide +kernel) rfl) pa_nil))))) (pss_one (ps_ret (pe_tup (pa_cons pe_str (pa_cons (pv 1) pa_nil))))) pss_nil) (pss_cons (ps_for PassesOwn.never rfl (pi_enumA rfl T.n_enumerate (pa_cons (pv 1) pa_nil)) (pg_tupK (K := K) (n := 2) rfl (pgs_cons (pg_name (i := 7) sc_made_due.nd rfl (Or.inl rfl)) (pgs_cons (pg_name (i := 2) sc_made_due.nd rfl (Or.inl rfl)) pgs_nil))) (pss_one (ps_if (PW.pt (pw_or (pt_cmpR (uEq K (hu64 hr)) (pv 7) pe_int (nomark _)) (pw_or (pt_not (pt_val (pe_call (w_l_is_word T) (hr.mono (by omega)) rfl T.g_l_is_word T.F_l_is_word.kp T.b_l_is_word .nil pass0 (pa_cons (pv 2) pa_nil)))) (pw_or1 (pt_not (pt_val (pe_call (w_l_is_wire T) (hr.mono (by omega)) rfl T.g_l_is_wire T.F_l_is_wire.kp T.b_l_is_wire .nil pass0 (pa_cons (pe_ix (uIxA K (hu64 hr)) (pv 1) (pv 2) (fun _ _ => rfl)) (pa_cons (pv 3) pa_nil))))))))) (pss_one (ps_ret (pe_tup (pa_cons pe_str (pa_cons (pv 2) pa_nil))))) pss_nil))) (pss_cons (ps_for PassesOwn.never rfl (pi_anyK (K := K) (pv 0)) (pg_name (i := 2) sc_made_due.nd rfl (Or.inl rfl)) (pss_one (ps_if (pt_val (pe_call (w_is_on_ring T) (hr.mono (by omega)) rfl T.g_is_on_ring T.F_is_on_ring.kp T.b_is_on_ring .nil pass0 (pa_cons (pv 0) (pa_cons (pv 2) pa_nil)))) (pss_one (ps_ret (pe_tup (pa_cons pe_str (pa_cons (pv 2) pa_nil))))) pss_nil))) (pss_one (ps_ret (pe_tup (pa_cons pe_str (pa_cons pe_non pa_nil))))))))))), w_start h 8 rfl fun ds Pd xe ⟨bd, od, e, pb, po, lb, lo, hp⟩ => ?_⟩)
  subst e
  refine ⟨Nat.le_of_ble_eq_true rfl, ?_⟩
  have okd : ∀ {n : Nat} {d : Dt}, PreN n d → okT d := fun {n d} h => by
    cases d with
    | dct kvs => rfl
    | _ => exact h.2
  refine wd_seq (wd_if (eb_not (eb_B (et_isDict (et_var rfl ⟨okd pb, Wv.n2 (fun hd => ?_) fun hd => wd_next ?_⟩)))))
  · have : neF bd od = .boxes bd := by
      cases bd with
      | dct kvs => cases hd
      | _ => rfl
    rw [this] at hp
    exact wd_ret (et_tup (ea_cons (et_str (ea_cons (et_var rfl (ea_nil ⟨Nat.le_of_ble_eq_true rfl, hp⟩))))))
  obtain ⟨kvs, rfl⟩ : ∃ kvs, bd = .dct kvs := by
    cases bd with
    | dct kvs => exact ⟨kvs, rfl⟩
    | _ => cases hd
  obtain ⟨pk, nd⟩ := pb
  obtain ⟨lk, lt⟩ := lb
  refine wd_seq (wd_parVO (Ef.et (ef_map wordD id (ei_any rfl (et_var rfl ⟨pk.ks, ?_⟩)))))
  refine ⟨nown_no rfl, fun d hd => ?_, fun d hd _ => et_var rfl ⟨rfl, rfl⟩, ?_⟩
  · obtain ⟨kv, _, rfl⟩ := List.mem_map.mp hd
    exact eb_B (et_call0 nolk (ea_cons (et_var rfl (ea_nil ⟨_, rfl, okT_k _, isB_i ⟨rfl, rfl⟩⟩))))
  rw [wdL_map]
  refine ef_dnew ?_
  have hns := wdL_nm kvs
  obtain ⟨nm, enm⟩ : ∃ nm, nm = nmF kvs := ⟨_, rfl⟩
  obtain ⟨nl, enl⟩ : ∃ nl, nl = wdL kvs := ⟨_, rfl⟩
  rw [← enm, ← enl] at hns
  rw [← enl]
  refine wd_seq (wd_for (ei_any rfl (et_var rfl ⟨pk.ks, ?_⟩)))
  refine ⟨fun i e => ∃ (s2 s5 s6 : Sl) (f ws : List (Key × Dt)), e = [.v (.dct kvs), .v od, s2, .v (.lst (nl.map .str)), .own (.dct ws), s5, s6, .no] ∧ ws.length ≤ i ∧ (∀ k t, dlk ws k = some t → ∃ i, t = .int i) ∧
      chkB nm kvs ((kvs.map fun kv => kDt kv.1).drop i) f ws = chkB nm kvs (kvs.map fun kv => kDt kv.1) [] [], ⟨.no, .no, .no, [], [], rfl, Nat.le_refl _, fun k t (h : none = some t) => (nomatch h), rfl⟩, ?_, ?_⟩
  · rintro i d e hi ⟨s2, s5, s6, f, ws, rfl, hw, hws, hc⟩
    obtain ⟨k, v, rfl, hkk, hv, hp1, hp2, hlt, hd⟩ := key_at pk.pv hi
    rw [hd] at hc
    have hc : (if wordD (kDt k) = true ∧ boxF nm ws ((dlk kvs (keyD (kDt k))).getD .non) = true then chkB nm kvs ((kvs.map fun kv => kDt kv.1).drop (i + 1)) (dpt f (keyD (kDt k)) (asbF ((dlk kvs (keyD (kDt k))).getD .non))) (wsF ws (asbF ((dlk kvs (keyD (kDt k))).getD .non))) else .inl (kDt k)) = _ := hc
    rw [hkk, hv] at hc
    have hc : (if wordD (kDt k) = true ∧ boxF nm ws v = true then chkB nm kvs ((kvs.map fun kv => kDt kv.1).drop (i + 1)) (dpt f k (asbF v)) (wsF ws (asbF v)) else .inl (kDt k)) = _ := hc
    have odd : ¬ (wordD (kDt k) = true ∧ boxF nm ws v = true) → Pd (.tup [.str "box", kDt k]) := fun h => by
      rw [if_neg h, enm] at hc
      have : neF (.dct kvs) od = .box (kDt k) := by unfold neF; dsimp only; rw [← hc]
      rw [this] at hp
      exact hp
    refine tg_name (wd_seq (wd_if (eb_or (eb_not (eb_B (et_call0 nolk (ea_cons (et_var rfl (ea_nil ⟨_, rfl, okT_k k, Wv.n2 (fun h => iteT ?_) fun h => ?_⟩)))))))))
    · exact wd_tag rfl (odd fun z => by rw [h] at z; cases z.1)
    obtain ⟨z, rfl⟩ : ∃ z, k = .inr z := by
      cases k with
      | inl j => cases h
      | inr z => exact ⟨z, rfl⟩
    refine eb_not (eb_B (et_call0 nolk (ea_cons (et_op rop_ix (et_var rfl (et_var rfl ⟨v, hv, ea_cons (et_var rfl (ea_nil ⟨v, nl, nm, rfl, ⟨hp1, hp2⟩, hns, Wv.n2 (fun h2 => ?_) fun h2 => wd_next ?_⟩))⟩))))))
    · exact wd_tag rfl (odd fun z => by rw [boxF_l, h2] at z; cases z.2)
    rcases lboxF_inv h2 with ⟨y, e1⟩ | ⟨y, c, l, e1, e2, hl4⟩
    · have hb : boxF nm ws v = true := by rw [boxF_l, h2]; unfold arB; rw [e1]; rfl
      rw [if_pos ⟨h, hb⟩, asbF_in e1] at hc
      refine wd_if (eb_test (et_op rop_eq (et_op rop_ix (et_op rop_ix (et_var rfl (et_var rfl ⟨v, hv, et_int (fx0 e1 (et_str (feq_s (Wv.bf (by decide +kernel) (wd_next ?_)))))⟩))))))
      exact ⟨_, _, _, _, ws, rfl, by omega, hws, hc⟩
    refine wd_if (eb_test (et_op rop_eq (et_op rop_ix (et_op rop_ix (et_var rfl (et_var rfl ⟨v, hv, et_int (fx0 e1 (et_str (feq_s (Wv.bt (by decide +kernel) ?_))))⟩))))))
    refine wd_seq (wd_par (et_op rop_ix (et_op rop_ix (et_var rfl (et_var rfl ⟨v, hv, et_int (fx1 e1 (et_cb rcl_len (ea_cons (et_op rop_ix (et_op rop_ix (et_var rfl (et_var rfl ⟨v, hv, et_int (fx2 e1 (ea_nil ?_))⟩)))))))⟩)))))
    rw [itL_len e2]
    obtain ⟨m, hm⟩ : ∃ m, (dlk ws (.inr y)).getD (.int l.length) = .int m := by
      cases e : dlk ws (.inr y) with
      | none => exact ⟨_, rfl⟩
      | some t => obtain ⟨i, rfl⟩ := hws _ _ e; exact ⟨i, rfl⟩
    have har : boxF nm ws v = decide (m = (l.length : Int)) := by
      rw [boxF_l, h2, Bool.true_and]
      unfold arB
      rw [e1]
      dsimp only
      rw [e2]
      dsimp only
      rw [hm]
      rfl
    refine wd_seq (wd_if (eb_test (et_op rop_ne (et_dget2O rfl (et_var rfl (et_var rfl ⟨_, rfl, ?_⟩))))))
    rw [hm]
    refine et_var rfl (fne_i (Wv.v2 (fun h3 => ?_) fun h3 => wd_next ?_))
    · exact wd_tag rfl (odd fun z => by rw [har, h3] at z; cases z.2)
    rw [if_pos ⟨h, har.trans h3⟩, asbF_op e1 e2] at hc
    refine wd_dput (et_var rfl ⟨_, rfl, et_var rfl ⟨_, rfl, by simp only [Zz]; omega, ?_⟩⟩)
    refine ⟨_, _, _, dpt f (.inr z) (.tup [.str "op", .str y, .lst (l.map aswF)]), dpt ws (.inr y) (.int l.length), rfl, Nat.le_trans (dpt_len _ _ _) (by omega), fun k t h => ?_, ?_⟩
    · rw [dlk_dpt] at h
      split at h
      · cases h
        exact ⟨_, rfl⟩
      · exact hws k t h
    · have e3 : wsF ws (.tup [.str "op", .str y, .lst (l.map aswF)]) = dpt ws (.inr y) (.int l.length) := by
        show dpt ws (.inr y) (.int ((l.map aswF).length : Nat)) = _
        rw [List.length_map]
      rw [e3] at hc
      exact hc
  · rintro e ⟨s2, s5, s6, f, ws, rfl, hw, hws, hc⟩
    rw [List.drop_length] at hc
    have hchk : chkB (nmF kvs) kvs (kvs.map fun kv => kDt kv.1) [] [] = .inr f := by rw [← enm]; exact hc.symm
    have p := chkB_pass nd hchk
    have hbt : ∀ q, (dlk f (.inr q)).isSome = decide (q ∈ nl) := fun q => by rw [enl]; exact p.wdL q
    refine wd_seq (wd_if (eb_not (eb_B (et_isDict (et_var rfl ⟨okd po, Wv.n2 (fun hd => ?_) fun hd => wd_next ?_⟩)))))
    · have : neF (.dct kvs) od = .outputs od := by
        unfold neF
        simp only [hchk]
        cases od with
        | dct ovs => cases hd
        | _ => rfl
      rw [this] at hp
      exact wd_ret (et_tup (ea_cons (et_str (ea_cons (et_var rfl (ea_nil ⟨Nat.le_of_ble_eq_true rfl, hp⟩))))))
    obtain ⟨ovs, rfl⟩ : ∃ ovs, od = .dct ovs := by
      cases od with
      | dct ovs => exact ⟨ovs, rfl⟩
      | _ => cases hd
    obtain ⟨ok, nd2⟩ := po
    have lo : ovs.length ≤ 64 := lo
    refine wd_seq (wd_for (ei_enumD rfl (ea_cons (et_var rfl (ea_nil ⟨ovs, rfl, ok.ks, ?_⟩)))))
    refine ⟨fun i e => ∃ (s2 s7 : Sl) (g : List (Key × Dt)), e = [.v (.dct kvs), .v (.dct ovs), s2, .v (.lst (nl.map .str)), .own (.dct ws), s5, s6, s7] ∧ g.length = i ∧ (∀ kv ∈ g, kv.1 ∈ (ovs.map (·.1)).take i) ∧ chkO f ovs ((ovs.map fun kv => kDt kv.1).drop i) g = chkO f ovs (ovs.map fun kv => kDt kv.1) [], ⟨_, .no, [], rfl, rfl, (fun kv h => by cases h), rfl⟩, ?_, ?_⟩
    · rintro i dx e hi ⟨s2, s7, g, rfl, hg, hgk, hc2⟩
      obtain ⟨x, hx, rfl⟩ := enumD_get hi
      obtain ⟨k, v, rfl, hkk, hv, hp1, hp2, hlt, hd2⟩ := key_at ok.pv hx
      rw [hd2] at hc2
      have hc2 : (if ¬ g.length = 4 ∧ wordD (kDt k) = true ∧ wireF f ((dlk ovs (keyD (kDt k))).getD .non) = true then chkO f ovs ((ovs.map fun kv => kDt kv.1).drop (i + 1)) (dpt g (keyD (kDt k)) (aswF ((dlk ovs (keyD (kDt k))).getD .non))) else .inl (kDt k)) = _ := hc2
      rw [hkk, hv] at hc2
      have hc2 : (if ¬ g.length = 4 ∧ wordD (kDt k) = true ∧ wireF f v = true then chkO f ovs ((ovs.map fun kv => kDt kv.1).drop (i + 1)) (dpt g k (aswF v)) else .inl (kDt k)) = _ := hc2
      have odd : ¬ (¬ g.length = 4 ∧ wordD (kDt k) = true ∧ wireF f v = true) → Pd (.tup [.str "output", kDt k]) := fun h => by
        rw [if_neg h] at hc2
        have : neF (.dct kvs) (.dct ovs) = .output (kDt k) := by unfold neF; simp only [hchk, ← hc2]
        rw [this] at hp
        exact hp
      refine (tv_tup (tgs_cons (tv_name (tgs_cons (tv_name (tgs_nil ?_)))))).tg
      refine wd_if (eb_or (eb_test (et_op rop_eq (et_var rfl (et_int (feq_i (Wv.b2 (fun h4 => iteT ?_) fun h4 => ?_)))))))
      · have h4 := of_decide_eq_true h4
        exact wd_tag rfl (odd fun z => z.1 (by omega))
      have h4 := of_decide_eq_false h4
      have h4 : ¬ g.length = 4 := by omega
      refine eb_or (eb_not (eb_B (et_call0 nolk (ea_cons (et_var rfl (ea_nil ⟨_, rfl, okT_k k, Wv.n2 (fun h => iteT ?_) fun h => ?_⟩))))))
      · exact wd_tag rfl (odd fun z => by rw [h] at z; cases z.2.1)
      obtain ⟨z, rfl⟩ : ∃ z, k = .inr z := by
        cases k with
        | inl j => cases h
        | inr z => exact ⟨z, rfl⟩
      refine eb_not (eb_B (et_call0 nolk (ea_cons (et_op rop_ix (et_var rfl (et_var rfl ⟨v, hv, ea_cons (et_var rfl (ea_nil ⟨v, nl, f, rfl, ⟨hp1, hp2⟩, hbt, Wv.n2 (fun h2 => ?_) fun h2 => wd_next ?_⟩))⟩))))))
      · exact wd_tag rfl (odd fun z => by rw [h2] at z; cases z.2.2)
      rw [if_pos ⟨h4, h, h2⟩] at hc2
      have hkm : (ovs.map (·.1))[i]? = some (.inr z) := by
        rw [List.getElem?_map] at hx ⊢
        cases e : ovs[i]? with
        | none => rw [e] at hx; cases hx
        | some q =>
          rw [e] at hx
          obtain ⟨k, v⟩ := q
          cases k with
          | inl j => cases hx
          | inr y => cases hx; rfl
      have htk : (ovs.map (·.1)).take (i + 1) = (ovs.map (·.1)).take i ++ [.inr z] := by rw [List.take_add_one, hkm]; rfl
      have hno : (.inr z : Key) ∉ g.map (·.1) := fun hz => by
        obtain ⟨kv, hkv, e⟩ := List.mem_map.mp hz
        have h5 := hgk kv hkv
        rw [e] at h5
        have := nd2.sublist (List.take_sublist (i + 1) _)
        rw [htk, List.nodup_append] at this
        exact this.2.2 _ h5 _ (List.mem_singleton.mpr rfl) rfl
      rw [dpt_new hno] at hc2
      refine ⟨_, _, g ++ [(.inr z, aswF v)], rfl, by rw [List.length_append, hg]; rfl, fun kv hkv => ?_, hc2⟩
      rw [htk]
      rcases List.mem_append.mp hkv with hkv | hkv
      · exact List.mem_append_left _ (hgk kv hkv)
      · rw [List.mem_singleton.mp hkv]
        exact List.mem_append_right _ (List.mem_singleton.mpr rfl)
    · rintro e ⟨s2, s7, g, rfl, hg, hgk, hc2⟩
      rw [enumD_len, List.drop_length] at hc2
      have hp : Pd (match ringOf (nsOf kvs) (bxOf f) with
          | some n => NE.ring n
          | none => NE.net f g).due := by
        have : neF (.dct kvs) (.dct ovs) = (match ringOf (nsOf kvs) (bxOf f) with | some n => NE.ring n | none => NE.net f g) := by unfold neF; simp only [hchk, ← hc2]; rfl
        rw [this] at hp
        exact hp
      refine wd_seq (wd_for (ei_any rfl (et_var rfl ⟨pk.ks, ?_⟩)))
      rw [ks_map p.ks]
      refine ⟨fun i e => ∃ (s2 s7 : Sl), e = [.v (.dct kvs), .v (.dct ovs), s2, .v (.lst (nl.map .str)), .own (.dct ws), s5, s6, s7] ∧ ∀ n ∈ (nsOf kvs).take i, ¬ Rch (bxOf f) true n n, ⟨_, _, rfl, fun n h => by cases h⟩, ?_, ?_⟩
      · rintro i d e hi ⟨s2, s7, rfl, hno⟩
        obtain ⟨n, rfl, hn⟩ := strAtN hi
        have htk : (nsOf kvs).take (i + 1) = (nsOf kvs).take i ++ [n] := by rw [List.take_add_one, hn]; rfl
        have hnm := List.mem_of_getElem? hn
        refine tg_name (wd_if (eb_B (et_call0 nolk (ea_cons (et_var rfl (ea_cons (et_var rfl (ea_nil ⟨kvs, f, n, rfl, ⟨p, nd, lk, lt⟩, hnm, Wv.b2 (fun h => ?_) fun h => wd_next ⟨_, _, rfl, fun m hm => ?_⟩⟩))))))))
        · have hr := of_decide_eq_true h
          rw [ringOf_at hn hr hno] at hp
          exact wd_ret (et_tup (ea_cons (et_str (ea_cons (et_var rfl (ea_nil ⟨Nat.le_of_ble_eq_true rfl, hp⟩))))))
        · rw [htk] at hm
          rcases List.mem_append.mp hm with hm | hm
          · exact hno m hm
          · rw [List.mem_singleton.mp hm]
            exact of_decide_eq_false h
      · rintro e ⟨s2, s7, rfl, hno⟩
        rw [List.length_map, List.take_length] at hno
        rw [ringOf_no hno] at hp
        exact wd_ret (et_tup (ea_cons (et_str (ea_cons (et_non (ea_nil ⟨Nat.le_of_ble_eq_true rfl, hp⟩))))))
end
end Lw
/-! l[k] = e, l a list of one's own. -/
namespace Wv
open PySem PySem.Spec PyProof.Rows L2 Evl
section
variable {g : Gx} {env : List Sl} {te ti : TE} {E : De}
theorem wd_lput {i : Nat} {d0 : Dt} (h0 : env[i]? = some (Sl.own d0)) (h : Et g env te fun d e1 => Et g e1 ti fun n e2 => ∃ (k : Nat) (ds : List Dt), n = .int (k : Int) ∧ e2[i]? = some (Sl.own (.lst ds)) ∧ k < ds.length ∧ E.nx (e2.set i (.own (.lst (ds.set k d))))) :
    Wd g env (tAsg te (gSub (tVar i) ti rSetL)) E := fun c L σ H S D nx bk ct rt => by
  obtain ⟨p, h1, _⟩ := S.own i _ h0
  refine h c L σ H S _ fun x d e1 H1 p1 S1 l1 k1 r1 => ?_
  show tVar i σ H1 _
  refine ⟨.ref p, h1, p1 c L σ H1 S1 _ fun y n e2 H2 ⟨k, ds, en, hd, hk, q⟩ S2 l2 k2 r2 => ?_⟩
  subst en
  obtain rfl : y = .int (k : Int) := by cases r2; rfl
  obtain ⟨p', w1, _, _, ys, w4, w5, w6, w7⟩ := S2.own i _ hd
  rw [h1] at w1
  cases w1
  have hp : Av c σ e2 p := .inr ⟨i, _, hd, h1⟩
  have rx : Rv c.so (Av c σ e2) H2 x d := (S1.kp r1 k2).mono (Av.le l2)
  refine ⟨p, ys, k, k, rfl, rfl, w4, ixN_nat (by omega), nx σ _ _ (S2.put (e := .lst (ds.set k d)) hd h1 ⟨ys.set k x, upd_same, by simp [w5], by rw [List.length_set]; exact w6, fun j y t z1 z2 => ?_⟩) (((fw_e l1 k1).trans (fw_e l2 k2)).trans (fw_put hd h1)) q⟩
  rw [List.getElem?_set] at z1 z2
  by_cases hj : k = j
  · rw [if_pos hj, if_pos (by omega)] at z1 z2
    cases z1
    cases z2
    exact rx.keep (A := c.O) (Ko.mut hp)
  · rw [if_neg hj] at z1 z2
    exact (w7 j y t z1 z2).keep (A := c.O) (Ko.mut hp)
/-- an own list or dict is a tree from here on -/
theorem wd_frz {i : Nat} {d : Dt} {t : TS} (h0 : env[i]? = some (Sl.own d)) (h : Wd g (env.set i (.v d)) t E) : Wd g env t E := fun c L σ H S D n b k r =>
  h c L σ H (S.frz h0) D (fun σ2 H2 e2 S2 f2 z => n σ2 H2 e2 S2 ((fw_e le_set_v Ko.refl).trans f2) z) (fun σ2 H2 e2 S2 f2 z => b σ2 H2 e2 S2 ((fw_e le_set_v Ko.refl).trans f2) z) (fun σ2 H2 e2 S2 f2 z => k σ2 H2 e2 S2 ((fw_e le_set_v Ko.refl).trans f2) z)
    fun x d H' p hb kf rv => r x d H' p hb (Fw.trans (fw_e le_set_v Ko.refl) (σ2 := σ) (e2 := env.set i (.v _)) ⟨kf, fun a z => .inl z⟩).1 rv
end
end Wv
namespace Lw
open PySem PySem.Spec PyProof.Rows L2 Evl Wv
set_option hygiene false in
local macro_rules
  | `(tactic| ac_rfl) => `(tactic| repeat' (first | (with_reducible show Et _ _ _ _; first | with_reducible refine et_popAt (by with_unfolding_all rfl) ?_ | with_reducible refine et_var (by with_unfolding_all rfl) ?_ | with_reducible refine et_int ?_ | with_reducible refine et_str ?_ | with_reducible refine et_bl ?_ | with_reducible refine et_non ?_ | with_reducible refine et_andV ?_ | with_reducible refine et_orV ?_ | with_reducible refine et_notV ?_ | with_reducible refine et_if ?_ | with_reducible refine et_isStr ?_ | with_reducible refine et_isInt ?_ | with_reducible refine et_isBool ?_ | with_reducible refine et_isDict ?_ | with_reducible refine et_isList ?_ | with_reducible refine et_isTuple ?_ | with_reducible refine et_isLT ?_ | with_reducible refine et_tup ?_ | with_reducible refine et_neg ?_ | with_reducible refine et_ixO (by with_unfolding_all rfl) ?_ | with_reducible refine et_opL (by first | exact rop_ix | exact rop_eq | exact rop_ne | exact rop_in | exact rop_ni | exact rop_add | exact rop_sub | exact rop_mul | exact rop_lt | exact rop_le | exact rop_gt | exact rop_ge | exact rop_mod | exact rop_div | exact rop_isN | exact rop_notN) (by with_unfolding_all rfl) ?_ | with_reducible refine et_opRo (by first | exact rop_ix | exact rop_eq | exact rop_ne | exact rop_in | exact rop_ni | exact rop_add | exact rop_sub | exact rop_mul | exact rop_lt | exact rop_le | exact rop_gt | exact rop_ge | exact rop_mod | exact rop_div | exact rop_isN | exact rop_notN) (by with_unfolding_all rfl) ?_ | with_reducible refine et_op (by first | exact rop_ix | exact rop_eq | exact rop_ne | exact rop_in | exact rop_ni | exact rop_add | exact rop_sub | exact rop_mul | exact rop_lt | exact rop_le | exact rop_gt | exact rop_ge | exact rop_mod | exact rop_div | exact rop_isN | exact rop_notN) ?_ | with_reducible refine et_cbO (by first | exact rcl_len | exact rcl_int | exact rcl_sum | exact rcl_max | exact rcl_min | exact rcl_all | exact rcl_any) (by with_unfolding_all rfl) ?_ | with_reducible refine et_cb (by first | exact rcl_len | exact rcl_int | exact rcl_sum | exact rcl_max | exact rcl_min | exact rcl_all | exact rcl_any) ?_ | with_reducible refine et_chain (by first | exact rop_ix | exact rop_eq | exact rop_ne | exact rop_in | exact rop_ni | exact rop_add | exact rop_sub | exact rop_mul | exact rop_lt | exact rop_le | exact rop_gt | exact rop_ge | exact rop_mod | exact rop_div | exact rop_isN | exact rop_notN) (by first | exact rop_ix | exact rop_eq | exact rop_ne | exact rop_in | exact rop_ni | exact rop_add | exact rop_sub | exact rop_mul | exact rop_lt | exact rop_le | exact rop_gt | exact rop_ge | exact rop_mod | exact rop_div | exact rop_isN | exact rop_notN) ?_ | with_reducible refine et_dget2O (by with_unfolding_all rfl) ?_ | with_reducible refine et_dget2 ?_ | with_reducible refine et_call0 nolk ?_ | with_reducible refine et_call0 samelk ?_ | with_reducible refine et_sl ?_) | (with_reducible show Wd _ _ _ _; first | with_reducible refine wd_seq ?_ | with_reducible refine wd_if ?_ | with_reducible refine wd_ret ?_ | with_reducible refine wd_next ?_ | with_reducible refine wd_raise ?_ | with_reducible refine wd_dput ?_ | with_reducible refine wd_app (by with_unfolding_all rfl) ?_ | with_reducible refine wd_retN ?_) | (with_reducible show Ea _ _ _ _; first | with_reducible refine ea_nil ?_ | with_reducible refine ea_cons ?_) | (with_reducible show Eb _ _ _ _; first | with_reducible refine eb_or ?_ | with_reducible refine eb_and ?_ | with_reducible refine eb_not ?_ | with_reducible refine eb_B ?_ | with_reducible refine eb_test ?_ | with_reducible refine eb_yes ?_) | (with_reducible show Eo _ _ _ _; first | with_reducible refine eo_none ?_ | with_reducible refine eo_some ?_) | with_reducible refine isTyI (by first | with_unfolding_all rfl | assumption | exact pur_ok (by assumption)) ?_ | with_reducible refine iteT ?_ | with_reducible refine iteF ?_ | with_reducible refine bt (by first | with_unfolding_all rfl | assumption) ?_ | with_reducible refine bf (by first | with_unfolding_all rfl | assumption) ?_ | with_reducible refine nt (by first | with_unfolding_all rfl | assumption) ?_ | with_reducible refine nf (by first | with_unfolding_all rfl | assumption) ?_ | with_reducible refine fin_s ?_ | with_reducible refine fni_s ?_ | with_reducible refine fx0 (by first | with_unfolding_all rfl | assumption) ?_ | with_reducible refine fx1 (by first | with_unfolding_all rfl | assumption) ?_ | with_reducible refine fx2 (by first | with_unfolding_all rfl | assumption) ?_ | with_reducible refine fxlen (by first | with_unfolding_all rfl | assumption) ?_ | with_reducible refine fxit (by first | with_unfolding_all rfl | assumption) ?_ | with_reducible refine feq_i ?_ | with_reducible refine feq_s ?_ | with_reducible refine fne_i ?_ | with_reducible refine fne_s ?_ | with_reducible refine r1_i (by first | with_unfolding_all rfl | assumption | exact pur_ok (by assumption)) ?_ | with_reducible refine sclI (by with_unfolding_all rfl) ?_ | with_reducible refine lenI (by with_unfolding_all rfl) ?_ | with_reducible refine eI ?_ | with_reducible refine addI ?_ | with_reducible refine jI ?_ | with_reducible refine lenLst ?_ | with_reducible refine lenTup ?_ | with_reducible refine lenDct ?_ | with_reducible refine lenStr ?_ | with_reducible refine slL ?_ | with_reducible refine slT ?_ | with_reducible refine slS ?_ | with_reducible refine intI ?_ | with_reducible refine intB ?_ | with_reducible refine itsL ?_ | with_reducible refine itsT ?_ | with_reducible refine itdL ?_ | with_reducible refine itdT ?_ | with_reducible refine kdI ?_ | with_reducible refine kdS ?_ | with_reducible refine exOwn (by with_unfolding_all rfl) ?_ | with_reducible refine exOwnD (by with_unfolding_all rfl) ?_ | with_reducible refine exOwnL (by with_unfolding_all rfl) ?_))
section
variable {P : Program} {w : World} {K : PySem.W.Frag} {mg : Str → Option Value} {base : Heap}
/-! ### _law_same of one thing twice -/
def smB : Nat → Dt → Bool
  | 0, _ => false
  | n + 1, .lst xs => xs.all (smB n)
  | n + 1, .tup xs => xs.all (smB n)
  | _ + 1, .str z => PyData.strOk z
  | _ + 1, .non => true
  | _ + 1, .bl _ => true
  | _ + 1, .int _ => true
  | _ + 1, .dct ks => ks.all (fun kv => dat kv.2 && decide (dep kv.2 < 50)) && decide ((ks.map (·.1)).Nodup)
  | _ + 1, _ => false
theorem zip_same {xs : List Dt} {d : Dt} (h : d ∈ zipD xs xs) : ∃ a ∈ xs, d = .tup [a, a] := by
  unfold zipD at h
  obtain ⟨i, hi⟩ := List.mem_iff_getElem?.mp h
  rw [List.getElem?_zipWith] at hi
  cases e : xs[i]? with
  | none => rw [e] at hi; cases hi
  | some a => rw [e] at hi; cases hi; exact ⟨a, List.mem_of_getElem? e, rfl⟩
theorem fne_b {a : Bool} {k : Dt → Prop} (p : k (.bl false)) : fNe (.bl a) (.bl a) k := by
  show k (.bl (!decide (a = a)))
  rw [decide_eq_true rfl]
  exact p
theorem feq_b {a : Bool} {k : Dt → Prop} (p : k (.bl true)) : fEq (.bl a) (.bl a) k := by
  show k (.bl (decide (a = a)))
  rw [decide_eq_true rfl]
  exact p
theorem all_true' {xs : List Dt} : xs.all (fun _ => true) = true := List.all_eq_true.mpr fun _ _ => rfl
def RSame (n : Nat) : Rd3 := fun ds Pd _ => ∃ d, ds = [d, d] ∧ smB n d = true ∧ Pd (.bl true)
theorem w_same (T : Txt P K mg) (n : Nat) : FnOk P w K mg base CX0 (n + 1) T.a_same T.d_same ["_law_found", "_law_due"] (spW K false (RSame n)) := by
  induction n with
  | zero => exact ⟨fun vs H Q E h => w_len 2 h fun _ _ _ ⟨_, e, _⟩ => by rw [e]; rfl, fun A outer s H args us vs Q E _ _ _ _ h => by obtain ⟨_, _, _, _, _, _, _, _, ⟨_, _, h, _⟩, _⟩ := h; cases h⟩
  | succ n ih =>
    refine T.F_same.ok sc_same (fun vs H Q E h => w_len 2 h fun _ _ _ ⟨_, e, _⟩ => by rw [e]; rfl) (fun cdv A outer s H vs Q E hr h => ⟨_, PSs.nox (pss_cons (ps_if (pt_val (pe_callB (u_isinstance K) rfl T.n_isinstance (by decide +kernel) (pa_cons (pv 1) (pa_cons (pe_tup (pa_cons (pe_bltn (v := .ty "list") rfl T.n_list (by decide +kernel) rfl) (pa_cons (pe_bltn (v := .ty "tuple") rfl T.n_tuple (by decide +kernel) rfl) pa_nil))) pa_nil)))) (pss_cons (ps_if (PW.pt (pw_or (pt_cmpR (uNe K (hu64 hr)) (pe_callB (u_isinstance K) rfl T.n_isinstance (by decide +kernel) (pa_cons (pv 0) (pa_cons (pe_bltn (v := .ty "list") rfl T.n_list (by decide +kernel) rfl) pa_nil))) (pe_callB (u_isinstance K) rfl T.n_isinstance (by decide +kernel) (pa_cons (pv 1) (pa_cons (pe_bltn (v := .ty "list") rfl T.n_list (by decide +kernel) rfl) pa_nil))) (nomark _)) (pw_or1 (pt_cmpR (uNe K (hu64 hr)) (pe_callB (u_isinstance K) rfl T.n_isinstance (by decide +kernel) (pa_cons (pv 0) (pa_cons (pe_bltn (v := .ty "tuple") rfl T.n_tuple (by decide +kernel) rfl) pa_nil))) (pe_callB (u_isinstance K) rfl T.n_isinstance (by decide +kernel) (pa_cons (pv 1) (pa_cons (pe_bltn (v := .ty "tuple") rfl T.n_tuple (by decide +kernel) rfl) pa_nil))) (nomark _))))) (pss_one (ps_ret pe_bl)) pss_nil) (pss_one (ps_ret (pe_and (pe_cmpR (uEq K (hu64 hr)) (pe_callB (u_lenA K) rfl T.n_len (by decide +kernel) (pa_cons (pv 0) pa_nil)) (pe_callB (u_lenA K) rfl T.n_len (by decide +kernel) (pa_cons (pv 1) pa_nil)) (nomark _)) (pe_one (pe_callB (u_allA K rfl) rfl T.n_all (by decide +kernel) (pa_cons (pe_lc (own := [("_law_a", 2), ("_law_b", 3)]) (g := gTup K 2 (gCons (gName 2) (gCons (gName 3) gNil))) rfl sc_same.nd (pi_zipK (K := K) rfl T.n_zip (pa_cons (pv 0) (pa_cons (pv 1) pa_nil))) (blkOk_by (N := ["_law_found", "_law_due", "_law_a", "_law_b"]) (sc := defScope s_same) (by decide +kernel)) (fun _ _ _ _ _ => (pg_tupK (K := K) (n := 2) rfl (pgs_cons (pg_name (i := 2) sc_same.nd rfl (Or.inl rfl)) (pgs_cons (pg_name (i := 3) sc_same.nd rfl (Or.inl rfl)) pgs_nil)))) (fun _ _ _ _ _ => pts_nil) (fun _ _ _ _ _ => (pe_call ih hr rfl T.g_same T.F_same.kp T.b_same .nil pass0 (pa_cons (pv 2) (pa_cons (pv 3) pa_nil))))) pa_nil))))))) pss_nil) (pss_cons (ps_if (pt_val (pe_callB (u_isinstance K) rfl T.n_isinstance (by decide +kernel) (pa_cons (pv 1) (pa_cons (pe_bltn (v := .ty "int") rfl T.n_int (by decide +kernel) rfl) pa_nil)))) (pss_one (ps_ret (pe_and (pe_callB (u_isinstance K) rfl T.n_isinstance (by decide +kernel) (pa_cons (pv 0) (pa_cons (pe_bltn (v := .ty "int") rfl T.n_int (by decide +kernel) rfl) pa_nil))) (pe_and (pe_cmpR (uEq K (hu64 hr)) (pe_callB (u_isinstance K) rfl T.n_isinstance (by decide +kernel) (pa_cons (pv 0) (pa_cons (pe_bltn (v := .ty "bool") rfl T.n_bool (by decide +kernel) rfl) pa_nil))) (pe_callB (u_isinstance K) rfl T.n_isinstance (by decide +kernel) (pa_cons (pv 1) (pa_cons (pe_bltn (v := .ty "bool") rfl T.n_bool (by decide +kernel) rfl) pa_nil))) (nomark _)) (pe_one (pe_cmpR (uEq K (hu64 hr)) (pv 0) (pv 1) (nomark _))))))) pss_nil) (pss_one (ps_ret (pe_and (pe_cmpR op_isBl (pe_callB (u_isinstance K) rfl T.n_isinstance (by decide +kernel) (pa_cons (pv 0) (pa_cons (pe_tup (pa_cons (pe_bltn (v := .ty "bool") rfl T.n_bool (by decide +kernel) rfl) (pa_cons (pe_bltn (v := .ty "int") rfl T.n_int (by decide +kernel) rfl) (pa_cons (pe_bltn (v := .ty "list") rfl T.n_list (by decide +kernel) rfl) (pa_cons (pe_bltn (v := .ty "tuple") rfl T.n_tuple (by decide +kernel) rfl) pa_nil))))) pa_nil))) pe_bl (nomark _)) (pe_one (pe_cmpR (uEq K (hu64 hr)) (pv 0) (pv 1) (nomark _)))))))), w_start h 4 rfl fun ds Pd xe ⟨d, e, hd, p⟩ => ?_⟩)
    subst e
    refine ⟨Nat.le_of_ble_eq_true rfl, ?_⟩
    have isL2 : ∀ xs : List Dt, xs.all (smB n) = true → ∀ d ∈ zipD xs xs, ∃ d1 d2, d = .tup [d1, d2] ∧ d1 = d2 ∧ smB n d1 = true := fun xs h d hd => by
      obtain ⟨a, ha, rfl⟩ := zip_same hd
      exact ⟨a, a, rfl, rfl, List.all_eq_true.mp h a ha⟩
    cases d with
    | lst xs =>
      have hd : xs.all (smB n) = true := hd
      ac_rfl
      refine fne_b (Wv.bf rfl ?_)
      ac_rfl
      refine fne_b (Wv.bf rfl ?_)
      ac_rfl
      refine Wv.bt (decide_eq_true rfl) (et_all2Y (by decide) (fun _ => true) (ei_zip ?_))
      ac_rfl
      refine ⟨xs, xs, rfl, nown_no rfl, nown_no rfl, fun d hd2 => ?_, by rw [all_true']; exact p⟩
      obtain ⟨d1, d2, rfl, rfl, h1⟩ := isL2 xs hd d hd2
      exact ⟨_, _, rfl, et_call0 nolk (ea_cons (et_var rfl (ea_cons (et_var rfl (ea_nil ⟨_, rfl, h1, rfl, rfl⟩)))))⟩
    | tup xs =>
      have hd : xs.all (smB n) = true := hd
      ac_rfl
      refine fne_b (Wv.bf rfl ?_)
      ac_rfl
      refine fne_b (Wv.bf rfl ?_)
      ac_rfl
      refine Wv.bt (decide_eq_true rfl) (et_all2Y (by decide) (fun _ => true) (ei_zipT ?_))
      ac_rfl
      refine ⟨xs, xs, rfl, nown_no rfl, nown_no rfl, fun d hd2 => ?_, by rw [all_true']; exact p⟩
      obtain ⟨d1, d2, rfl, rfl, h1⟩ := isL2 xs hd d hd2
      exact ⟨_, _, rfl, et_call0 nolk (ea_cons (et_var rfl (ea_cons (et_var rfl (ea_nil ⟨_, rfl, h1, rfl, rfl⟩)))))⟩
    | str z =>
      ac_rfl
      refine et_op rop_isB (et_isBILT ?_)
      ac_rfl
      refine Wv.bt rfl ?_
      ac_rfl
      rw [decide_eq_true rfl]
      exact p
    | non =>
      ac_rfl
      refine et_op rop_isB (et_isBILT ?_)
      ac_rfl
      refine Wv.bt rfl ?_
      ac_rfl
      exact ⟨shp_of rfl (by decide), shp_of rfl (by decide), p⟩
    | int i =>
      ac_rfl
      refine feq_b (Wv.bt rfl ?_)
      ac_rfl
      rw [decide_eq_true rfl]
      exact p
    | bl b =>
      ac_rfl
      refine feq_b (Wv.bt rfl ?_)
      ac_rfl
      exact feq_b p
    | dct ks =>
      obtain ⟨h1, h2⟩ := Bool.and_eq_true_iff.mp (show (ks.all (fun kv => dat kv.2 && decide (dep kv.2 < 50)) && decide ((ks.map (·.1)).Nodup)) = true from hd)
      have h3 : ∀ kv ∈ ks, dat kv.2 = true ∧ dep kv.2 < 50 := fun kv hkv => by
        obtain ⟨a, b⟩ := Bool.and_eq_true_iff.mp (List.all_eq_true.mp h1 kv hkv)
        exact ⟨a, of_decide_eq_true b⟩
      ac_rfl
      refine et_op rop_isB (et_isBILT ?_)
      ac_rfl
      refine Wv.bt rfl ?_
      ac_rfl
      refine ⟨fun kv hkv => shk_of (h3 kv hkv).1 (h3 kv hkv).2, fun kv hkv => shk_of (h3 kv hkv).1 (h3 kv hkv).2, ?_⟩
      rw [eqK_refl (of_decide_eq_true h2) fun kv hkv => (h3 kv hkv).1]
      exact p
    | _ => unfold smB at hd; cases hd
end
end Lw
namespace Lw
open PySem PySem.Spec PyProof.Rows L2 Evl Wv
set_option hygiene false in
local macro_rules
  | `(tactic| ac_rfl) => `(tactic| repeat' (first | (with_reducible show Et _ _ _ _; first | with_reducible refine et_popAt (by with_unfolding_all rfl) ?_ | with_reducible refine et_var (by with_unfolding_all rfl) ?_ | with_reducible refine et_int ?_ | with_reducible refine et_str ?_ | with_reducible refine et_bl ?_ | with_reducible refine et_non ?_ | with_reducible refine et_andV ?_ | with_reducible refine et_orV ?_ | with_reducible refine et_notV ?_ | with_reducible refine et_if ?_ | with_reducible refine et_isStr ?_ | with_reducible refine et_isInt ?_ | with_reducible refine et_isBool ?_ | with_reducible refine et_isDict ?_ | with_reducible refine et_isList ?_ | with_reducible refine et_isTuple ?_ | with_reducible refine et_isLT ?_ | with_reducible refine et_tup ?_ | with_reducible refine et_neg ?_ | with_reducible refine et_ixO (by with_unfolding_all rfl) ?_ | with_reducible refine et_opL (by first | exact rop_ix | exact rop_eq | exact rop_ne | exact rop_in | exact rop_ni | exact rop_add | exact rop_sub | exact rop_mul | exact rop_lt | exact rop_le | exact rop_gt | exact rop_ge | exact rop_mod | exact rop_div | exact rop_isN | exact rop_notN) (by with_unfolding_all rfl) ?_ | with_reducible refine et_opRo (by first | exact rop_ix | exact rop_eq | exact rop_ne | exact rop_in | exact rop_ni | exact rop_add | exact rop_sub | exact rop_mul | exact rop_lt | exact rop_le | exact rop_gt | exact rop_ge | exact rop_mod | exact rop_div | exact rop_isN | exact rop_notN) (by with_unfolding_all rfl) ?_ | with_reducible refine et_op (by first | exact rop_ix | exact rop_eq | exact rop_ne | exact rop_in | exact rop_ni | exact rop_add | exact rop_sub | exact rop_mul | exact rop_lt | exact rop_le | exact rop_gt | exact rop_ge | exact rop_mod | exact rop_div | exact rop_isN | exact rop_notN) ?_ | with_reducible refine et_cbO (by first | exact rcl_len | exact rcl_int | exact rcl_sum | exact rcl_max | exact rcl_min | exact rcl_all | exact rcl_any) (by with_unfolding_all rfl) ?_ | with_reducible refine et_cb (by first | exact rcl_len | exact rcl_int | exact rcl_sum | exact rcl_max | exact rcl_min | exact rcl_all | exact rcl_any) ?_ | with_reducible refine et_chain (by first | exact rop_ix | exact rop_eq | exact rop_ne | exact rop_in | exact rop_ni | exact rop_add | exact rop_sub | exact rop_mul | exact rop_lt | exact rop_le | exact rop_gt | exact rop_ge | exact rop_mod | exact rop_div | exact rop_isN | exact rop_notN) (by first | exact rop_ix | exact rop_eq | exact rop_ne | exact rop_in | exact rop_ni | exact rop_add | exact rop_sub | exact rop_mul | exact rop_lt | exact rop_le | exact rop_gt | exact rop_ge | exact rop_mod | exact rop_div | exact rop_isN | exact rop_notN) ?_ | with_reducible refine et_dget2O (by with_unfolding_all rfl) ?_ | with_reducible refine et_dget2 ?_ | with_reducible refine et_call0 nolk ?_ | with_reducible refine et_call0 samelk ?_ | with_reducible refine et_sl ?_) | (with_reducible show Wd _ _ _ _; first | with_reducible refine wd_seq ?_ | with_reducible refine wd_if ?_ | with_reducible refine wd_ret ?_ | with_reducible refine wd_next ?_ | with_reducible refine wd_raise ?_ | with_reducible refine wd_dput ?_ | with_reducible refine wd_app (by with_unfolding_all rfl) ?_ | with_reducible refine wd_retN ?_) | (with_reducible show Ea _ _ _ _; first | with_reducible refine ea_nil ?_ | with_reducible refine ea_cons ?_) | (with_reducible show Eb _ _ _ _; first | with_reducible refine eb_or ?_ | with_reducible refine eb_and ?_ | with_reducible refine eb_not ?_ | with_reducible refine eb_B ?_ | with_reducible refine eb_test ?_ | with_reducible refine eb_yes ?_) | (with_reducible show Eo _ _ _ _; first | with_reducible refine eo_none ?_ | with_reducible refine eo_some ?_) | with_reducible refine isTyI (by first | with_unfolding_all rfl | assumption | exact pur_ok (by assumption)) ?_ | with_reducible refine iteT ?_ | with_reducible refine iteF ?_ | with_reducible refine bt (by first | with_unfolding_all rfl | assumption) ?_ | with_reducible refine bf (by first | with_unfolding_all rfl | assumption) ?_ | with_reducible refine nt (by first | with_unfolding_all rfl | assumption) ?_ | with_reducible refine nf (by first | with_unfolding_all rfl | assumption) ?_ | with_reducible refine fin_s ?_ | with_reducible refine fni_s ?_ | with_reducible refine fx0 (by first | with_unfolding_all rfl | assumption) ?_ | with_reducible refine fx1 (by first | with_unfolding_all rfl | assumption) ?_ | with_reducible refine fx2 (by first | with_unfolding_all rfl | assumption) ?_ | with_reducible refine fxlen (by first | with_unfolding_all rfl | assumption) ?_ | with_reducible refine fxit (by first | with_unfolding_all rfl | assumption) ?_ | with_reducible refine feq_i ?_ | with_reducible refine feq_s ?_ | with_reducible refine fne_i ?_ | with_reducible refine fne_s ?_ | with_reducible refine r1_i (by first | with_unfolding_all rfl | assumption | exact pur_ok (by assumption)) ?_ | with_reducible refine sclI (by with_unfolding_all rfl) ?_ | with_reducible refine lenI (by with_unfolding_all rfl) ?_ | with_reducible refine eI ?_ | with_reducible refine addI ?_ | with_reducible refine jI ?_ | with_reducible refine lenLst ?_ | with_reducible refine lenTup ?_ | with_reducible refine lenDct ?_ | with_reducible refine lenStr ?_ | with_reducible refine slL ?_ | with_reducible refine slT ?_ | with_reducible refine slS ?_ | with_reducible refine intI ?_ | with_reducible refine intB ?_ | with_reducible refine itsL ?_ | with_reducible refine itsT ?_ | with_reducible refine itdL ?_ | with_reducible refine itdT ?_ | with_reducible refine kdI ?_ | with_reducible refine kdS ?_ | with_reducible refine exOwn (by with_unfolding_all rfl) ?_ | with_reducible refine exOwnD (by with_unfolding_all rfl) ?_ | with_reducible refine exOwnL (by with_unfolding_all rfl) ?_))
/-! ### odd things, bent wires, bent boxes -/
def sm (n : Nat) (d : Dt) : Prop := pur d = true ∧ dep d ≤ n
def sms (n : Nat) (xs : List Dt) : Prop := ∀ x ∈ xs, sm n x
theorem sms_nil {n : Nat} : sms n [] := fun x h => by cases h
theorem sms_cons {n : Nat} {x : Dt} {xs : List Dt} (h : sm n x) (r : sms n xs) : sms n (x :: xs) := fun y hy => (List.mem_cons.mp hy).elim (fun e => by rw [e]; exact h) (r y)
theorem sms_app {n : Nat} {xs ys : List Dt} (h : sms n xs) (r : sms n ys) : sms n (xs ++ ys) := fun y hy => (List.mem_append.mp hy).elim (h y) (r y)
theorem purs_of {xs : List Dt} (h : ∀ x ∈ xs, pur x = true) : purs xs = true := by
  induction xs with
  | nil => unfold purs; rfl
  | cons a l ih =>
    unfold purs
    rw [h a (List.mem_cons_self ..), ih fun x hx => h x (List.mem_cons_of_mem _ hx)]
    rfl
theorem sm_up {n m : Nat} {d : Dt} (h : sm n d) (hl : n ≤ m) : sm m d := ⟨h.1, Nat.le_trans h.2 hl⟩
theorem sms_up {n m : Nat} {xs : List Dt} (h : sms n xs) (hl : n ≤ m) : sms m xs := fun x hx => sm_up (h x hx) hl
theorem sm_tup {n : Nat} {xs : List Dt} (h : sms n xs) : sm (n + 1) (.tup xs) := ⟨by unfold pur; exact purs_of fun x hx => (h x hx).1, by rw [dep_tup]; exact Nat.succ_le_succ (deps_le fun x hx => (h x hx).2)⟩
theorem sm_lst {n : Nat} {xs : List Dt} (h : sms n xs) : sm (n + 1) (.lst xs) := ⟨by unfold pur; exact purs_of fun x hx => (h x hx).1, by rw [dep_lst]; exact Nat.succ_le_succ (deps_le fun x hx => (h x hx).2)⟩
theorem sm_str (z : Str) {n : Nat} : sm n (.str z) := ⟨by unfold pur; rfl, by rw [dep_str]; exact Nat.zero_le _⟩
theorem sm_int (i : Int) {n : Nat} : sm n (.int i) := ⟨by unfold pur; rfl, by unfold dep; exact Nat.zero_le _⟩
theorem sm_non {n : Nat} : sm n .non := ⟨by unfold pur; rfl, by unfold dep; exact Nat.zero_le _⟩
theorem sm_bl (b : Bool) {n : Nat} : sm n (.bl b) := ⟨by unfold pur; rfl, by unfold dep; exact Nat.zero_le _⟩
theorem sm_dct0 {n : Nat} : sm n (.dct []) := ⟨by unfold pur; rfl, by unfold dep; exact Nat.zero_le _⟩
theorem sm_cg {t : Dt} (h : cg 7 t = true) : sm 6 t := ⟨pur_dat t (cg_dat h), by have := cg_dep h; omega⟩
/-- odd things -/
structure OddOk (d : Dt) : Prop where
  s : sm 2 d
  w : twW d = true
  b : twB d = true
  m : smB 3 d = true
  l : ∀ xs, itL d = some xs → xs.all twW = true
  i : isO d = false
  d : ∀ kvs, d = .dct kvs → kvs = []
def oddL : List Dt := [.non, .bl true, .int 0, .str "", .str "A", .str "abcdefghi", .str "a1", .lst [], .dct [], .tup [], .lst [.str "a"], .tup [.str "in"], .tup [.str "op", .str "f"], .tup [.str "in", .str "x", .lst []]] ++ [.str "a~", .str "b{"]
theorem forall_cons {α : Type} {p : α → Prop} {a : α} {l : List α} (h : p a) (r : ∀ x ∈ l, p x) : ∀ x ∈ a :: l, p x := fun x hx => (List.mem_cons.mp hx).elim (fun e => by rw [e]; exact h) (r x)
theorem forall_nil {α : Type} {p : α → Prop} : ∀ x ∈ ([] : List α), p x := fun x h => by cases h
theorem it_not {d : Dt} (h : itL d = none) : ∀ xs, itL d = some xs → xs.all twW = true := fun xs e => by rw [h] at e; cases e
theorem oddL_ok : ∀ d ∈ oddL, OddOk d := by
  have st : ∀ z : Str, PyData.strOk z = true → OddOk (.str z) := fun z hz => ⟨sm_str z, rfl, rfl, hz, it_not rfl, rfl, fun kvs e => by cases e <;> rfl⟩
  refine forall_cons ⟨sm_non, rfl, rfl, rfl, it_not rfl, rfl, fun kvs e => by cases e <;> rfl⟩ ?_
  refine forall_cons ⟨sm_bl _, rfl, rfl, rfl, it_not rfl, rfl, fun kvs e => by cases e <;> rfl⟩ ?_
  refine forall_cons ⟨sm_int _, rfl, rfl, rfl, it_not rfl, rfl, fun kvs e => by cases e <;> rfl⟩ ?_
  refine forall_cons (st _ (by decide +kernel)) (forall_cons (st _ (by decide +kernel)) (forall_cons (st _ (by decide +kernel)) (forall_cons (st _ (by decide +kernel)) ?_)))
  refine forall_cons ⟨sm_up (sm_lst (n := 0) sms_nil) (by decide), rfl, rfl, rfl, fun xs e => (by cases e; rfl), rfl, fun kvs e => by cases e <;> rfl⟩ ?_
  refine forall_cons ⟨sm_dct0, rfl, rfl, by decide +kernel, it_not rfl, rfl, fun kvs e => by cases e <;> rfl⟩ ?_
  refine forall_cons ⟨sm_up (sm_tup (n := 0) sms_nil) (by decide), rfl, rfl, rfl, fun xs e => (by cases e; rfl), rfl, fun kvs e => by cases e <;> rfl⟩ ?_
  refine forall_cons ⟨sm_up (sm_lst (n := 0) (sms_cons (sm_str _) sms_nil)) (by decide), rfl, rfl, by decide +kernel, fun xs e => (by cases e; rfl), rfl, fun kvs e => by cases e <;> rfl⟩ ?_
  refine forall_cons ⟨sm_up (sm_tup (n := 0) (sms_cons (sm_str _) sms_nil)) (by decide), rfl, rfl, by decide +kernel, fun xs e => (by cases e; rfl), rfl, fun kvs e => by cases e <;> rfl⟩ ?_
  refine forall_cons ⟨sm_up (sm_tup (n := 0) (sms_cons (sm_str _) (sms_cons (sm_str _) sms_nil))) (by decide), rfl, rfl, by decide +kernel, fun xs e => (by cases e; rfl), rfl, fun kvs e => by cases e <;> rfl⟩ ?_
  refine forall_cons ⟨sm_tup (n := 1) (sms_cons (sm_str _) (sms_cons (sm_str _) (sms_cons (sm_lst (n := 0) sms_nil) sms_nil))), rfl, rfl, by decide +kernel, fun xs e => (by cases e; rfl), rfl, fun kvs e => by cases e <;> rfl⟩ ?_
  exact forall_cons (st _ (by decide +kernel)) (forall_cons (st _ (by decide +kernel)) forall_nil)
theorem addL {a b : List Dt} {k : Dt → Prop} (h : a.length + b.length ≤ Zz) (p : k (.lst (a ++ b))) : fAdd (.lst a) (.lst b) k := ⟨h, p⟩
theorem addSt {a b : Str} {k : Dt → Prop} (h : a.length + b.length ≤ Zz) (p : k (.str (a ++ b))) : fAdd (.str a) (.str b) k := ⟨h, p⟩
theorem rone {p : Dt → Prop} {xs : List Dt} {Pd : Dt → Prop} {xe : Addr → List (Str × Dt) → Prop} (h0 : 0 < xs.length ∧ xs.length ≤ 20000) (q : ∀ d, p d → Pd d) (h : ∀ d ∈ xs, p d) : ROne [.st, .lst xs] Pd xe :=
  ⟨_, xs, rfl, rfl, h0, fun i d hd => q d (h d (List.mem_of_getElem? hd))⟩
/-- bent wires -/
def BW (d : Dt) : Prop := sm 9 d ∧ twW d = true
section
variable {P : Program} {w : World} {K : PySem.W.Frag} {mg : Str → Option Value} {base : Heap}
theorem w_odd_things (T : Txt P K mg) : FnOk P w K mg base CX0 1 T.a_odd_things T.d_odd_things [] (spW K false fun ds Pd _ => ds = [] ∧ Pd (.lst oddL)) := by
  refine T.F_odd_things.ok sc_odd_things (fun vs H Q E h => w_len 0 h fun _ _ _ ⟨e, _⟩ => by rw [e]; rfl) (fun cdv A outer s H vs Q E hr h => ⟨_, PSs.nox (pss_cons (ps_set (i := 0) sc_odd_things.nd rfl (Or.inl rfl) (pe_lst (pa_cons pe_non (pa_cons pe_bl (pa_cons pe_int (pa_cons pe_str (pa_cons pe_str (pa_cons pe_str (pa_cons pe_str (pa_cons (pe_lst pa_nil) (pa_cons pe_dnewK (pa_cons (pe_tup pa_nil) (pa_cons (pe_lst (pa_cons pe_str pa_nil)) (pa_cons (pe_tup (pa_cons pe_str pa_nil)) (pa_cons (pe_tup (pa_cons pe_str (pa_cons pe_str pa_nil))) (pa_cons (pe_tup (pa_cons pe_str (pa_cons pe_str (pa_cons (pe_lst pa_nil) pa_nil)))) pa_nil)))))))))))))))) (pss_one (ps_ret (pe_op (uAdd K) (pv 0) (pe_lst (pa_cons pe_str (pa_cons pe_str pa_nil))))))), w_start h 1 rfl fun ds Pd xe ⟨e, hp⟩ => ?_⟩)
  subst e
  refine ⟨Nat.le_of_ble_eq_true rfl, ?_⟩
  refine wd_seq (wd_asg (Ef.et (ef_lst ?_)))
  ac_rfl
  refine Ef.et (ef_lst ?_)
  ac_rfl
  refine Ef.et (ef_dnew ?_)
  ac_rfl
  refine Ef.et (ef_lst ?_)
  ac_rfl
  refine Ef.et (ef_lst ?_)
  ac_rfl
  refine Ef.et (ef_lst ?_)
  ac_rfl
  exact ⟨by decide, hp⟩
theorem w_bent_wire (T : Txt P K mg) : FnOk P w K mg base CX0 4 T.a_bent_wire T.d_bent_wire ["_law_state", "_law_wire", "_law_odd"] (spW K false fun ds Pd _ => ∃ (x : Wi) (o : Dt), ds = [.st, wD x, o] ∧ (x.1.length ≤ 10 ∧ x.2.length ≤ 20 ∧ ∀ t ∈ x.2, cg 7 t = true) ∧ OddOk o ∧ ∀ d, BW d → Pd d) := by
  refine T.F_bent_wire.ok sc_bent_wire (fun vs H Q E h => w_len 3 h fun _ _ _ ⟨_, _, e, _⟩ => by rw [e]; rfl) (fun cdv A outer s H vs Q E hr h => ⟨_, PSs.nox (pss_cons (ps_asg (pv 1) (pg_tupK (K := K) (n := 2) rfl (pgs_cons (pg_name (i := 3) sc_bent_wire.nd rfl (Or.inl rfl)) (pgs_cons (pg_name (i := 4) sc_bent_wire.nd rfl (Or.inl rfl)) pgs_nil)))) (pss_cons (ps_set (i := 5) sc_bent_wire.nd rfl (Or.inl rfl) (pe_lst (pa_cons (pv 2) (pa_cons (pe_tup (pa_cons (pv 2) (pa_cons (pv 4) pa_nil))) (pa_cons (pe_tup (pa_cons (pv 3) (pa_cons (pv 2) pa_nil))) (pa_cons (pe_tup (pa_cons (pv 3) (pa_cons (pe_op (uAdd K) (pv 4) (pe_lst (pa_cons (pv 2) pa_nil))) pa_nil))) (pa_cons (pe_tup (pa_cons (pv 3) pa_nil)) (pa_cons (pe_tup (pa_cons (pv 3) (pa_cons (pv 4) (pa_cons (pe_lst pa_nil) pa_nil)))) (pa_cons (pe_tup (pa_cons (pv 3) (pa_cons (pe_lst (pa_cons (pe_tup (pa_cons pe_str pa_nil)) pa_nil)) pa_nil))) (pa_cons (pe_tup (pa_cons (pv 3) (pa_cons (pe_lst (pa_cons (pe_tup (pa_cons pe_str (pa_cons (pv 2) pa_nil))) pa_nil)) pa_nil))) pa_nil)))))))))) (pss_cons (ps_set (i := 5) sc_bent_wire.nd rfl (Or.inl rfl) (pe_op (uAdd K) (pv 5) (pe_lst (pa_cons (pe_tup (pa_cons pe_str (pa_cons (pv 4) pa_nil))) (pa_cons (pe_tup (pa_cons (pv 3) (pa_cons (pe_lst pa_nil) pa_nil))) (pa_cons (pe_tup (pa_cons (pv 3) (pa_cons (pe_lst (pa_cons (pe_tup (pa_cons pe_str (pa_cons pe_str (pa_cons pe_str (pa_cons pe_str (pa_cons pe_str pa_nil)))))) pa_nil)) pa_nil))) (pa_cons (pe_tup (pa_cons (pv 3) (pa_cons (pe_lst (pa_cons pe_str (pa_cons pe_str (pa_cons (pe_tup (pa_cons pe_str (pa_cons pe_str pa_nil))) pa_nil)))) pa_nil))) pa_nil))))))) (pss_cons (ps_set (i := 5) sc_bent_wire.nd rfl (Or.inl rfl) (pe_op (uAdd K) (pv 5) (pe_lst (pa_cons (pe_tup (pa_cons (pv 3) (pa_cons (pe_lst (pa_cons (pe_tup (pa_cons pe_str (pa_cons pe_str (pa_cons pe_str (pa_cons pe_str (pa_cons pe_str (pa_cons pe_str pa_nil))))))) pa_nil)) pa_nil))) (pa_cons (pe_op (uAdd K) (pv 3) pe_str) (pa_cons (pe_tup (pa_cons (pv 3) (pa_cons (pe_lst (pa_cons (pe_tup (pa_cons (pv 2) (pa_cons pe_str pa_nil))) pa_nil)) pa_nil))) pa_nil)))))) (pss_one (ps_ret (pe_call (w_one T) (hr.mono (by omega)) rfl T.g_one T.F_one.kp T.b_one .nil pass0 (pa_cons (pv 0) (pa_cons (pv 5) pa_nil))))))))), w_start h 6 rfl fun ds Pd xe ⟨x, o, e, ⟨h1, h2, h3⟩, ho, hp⟩ => ?_⟩)
  subst e
  refine ⟨Nat.le_of_ble_eq_true rfl, ?_⟩
  refine wd_seq (wd_asgT (et_var rfl (tv_tup (tgs_cons (tv_name (tgs_cons (tv_name (tgs_nil ?_))))))))
  refine wd_seq (wd_asg (Ef.et (ef_lst ?_)))
  ac_rfl
  first | refine Ef.et (ef_lst ?_) | refine addL (by simp only [List.length_append, List.length_cons, List.length_nil, Zz]; omega) ?_ | refine addSt (by simp only [Zz, show (Str.ofString "c").length = 1 from rfl]; omega) ?_ | refine wd_asg ?_
  ac_rfl
  first | refine Ef.et (ef_lst ?_) | refine addL (by simp only [List.length_append, List.length_cons, List.length_nil, Zz]; omega) ?_ | refine addSt (by simp only [Zz, show (Str.ofString "c").length = 1 from rfl]; omega) ?_ | refine wd_asg ?_
  ac_rfl
  first | refine Ef.et (ef_lst ?_) | refine addL (by simp only [List.length_append, List.length_cons, List.length_nil, Zz]; omega) ?_ | refine addSt (by simp only [Zz, show (Str.ofString "c").length = 1 from rfl]; omega) ?_ | refine wd_asg ?_
  ac_rfl
  first | refine Ef.et (ef_lst ?_) | refine addL (by simp only [List.length_append, List.length_cons, List.length_nil, Zz]; omega) ?_ | refine addSt (by simp only [Zz, show (Str.ofString "c").length = 1 from rfl]; omega) ?_ | refine wd_asg ?_
  ac_rfl
  first | refine Ef.et (ef_lst ?_) | refine addL (by simp only [List.length_append, List.length_cons, List.length_nil, Zz]; omega) ?_ | refine addSt (by simp only [Zz, show (Str.ofString "c").length = 1 from rfl]; omega) ?_ | refine wd_asg ?_
  ac_rfl
  first | refine Ef.et (ef_lst ?_) | refine addL (by simp only [List.length_append, List.length_cons, List.length_nil, Zz]; omega) ?_ | refine addSt (by simp only [Zz, show (Str.ofString "c").length = 1 from rfl]; omega) ?_ | refine wd_asg ?_
  ac_rfl
  first | refine Ef.et (ef_lst ?_) | refine addL (by simp only [List.length_append, List.length_cons, List.length_nil, Zz]; omega) ?_ | refine addSt (by simp only [Zz, show (Str.ofString "c").length = 1 from rfl]; omega) ?_ | refine wd_asg ?_
  ac_rfl
  first | refine Ef.et (ef_lst ?_) | refine addL (by simp only [List.length_append, List.length_cons, List.length_nil, Zz]; omega) ?_ | refine addSt (by simp only [Zz, show (Str.ofString "c").length = 1 from rfl]; omega) ?_ | refine wd_asg ?_
  ac_rfl
  first | refine Ef.et (ef_lst ?_) | refine addL (by simp only [List.length_append, List.length_cons, List.length_nil, Zz]; omega) ?_ | refine addSt (by simp only [Zz, show (Str.ofString "c").length = 1 from rfl]; omega) ?_ | refine wd_asg ?_
  ac_rfl
  first | refine Ef.et (ef_lst ?_) | refine addL (by simp only [List.length_append, List.length_cons, List.length_nil, Zz]; omega) ?_ | refine addSt (by simp only [Zz, show (Str.ofString "c").length = 1 from rfl]; omega) ?_ | refine wd_asg ?_
  ac_rfl
  first | refine Ef.et (ef_lst ?_) | refine addL (by simp only [List.length_append, List.length_cons, List.length_nil, Zz]; omega) ?_ | refine addSt (by simp only [Zz, show (Str.ofString "c").length = 1 from rfl]; omega) ?_ | refine wd_asg ?_
  ac_rfl
  first | refine Ef.et (ef_lst ?_) | refine addL (by simp only [List.length_append, List.length_cons, List.length_nil, Zz]; omega) ?_ | refine addSt (by simp only [Zz, show (Str.ofString "c").length = 1 from rfl]; omega) ?_ | refine wd_asg ?_
  ac_rfl
  first | refine Ef.et (ef_lst ?_) | refine addL (by simp only [List.length_append, List.length_cons, List.length_nil, Zz]; omega) ?_ | refine addSt (by simp only [Zz, show (Str.ofString "c").length = 1 from rfl]; omega) ?_ | refine wd_asg ?_
  ac_rfl
  first | refine Ef.et (ef_lst ?_) | refine addL (by simp only [List.length_append, List.length_cons, List.length_nil, Zz]; omega) ?_ | refine addSt (by simp only [Zz, show (Str.ofString "c").length = 1 from rfl]; omega) ?_ | refine wd_asg ?_
  ac_rfl
  first | refine Ef.et (ef_lst ?_) | refine addL (by simp only [List.length_append, List.length_cons, List.length_nil, Zz]; omega) ?_ | refine addSt (by simp only [Zz, show (Str.ofString "c").length = 1 from rfl]; omega) ?_ | refine wd_asg ?_
  ac_rfl
  first | refine Ef.et (ef_lst ?_) | refine addL (by simp only [List.length_append, List.length_cons, List.length_nil, Zz]; omega) ?_ | refine addSt (by simp only [Zz, show (Str.ofString "c").length = 1 from rfl]; omega) ?_ | refine wd_asg ?_
  ac_rfl
  first | refine Ef.et (ef_lst ?_) | refine addL (by simp only [List.length_append, List.length_cons, List.length_nil, Zz]; omega) ?_ | refine addSt (by simp only [Zz, show (Str.ofString "c").length = 1 from rfl]; omega) ?_ | refine wd_asg ?_
  ac_rfl
  refine rone (p := BW) ⟨Nat.zero_lt_succ _, Nat.le_of_ble_eq_true rfl⟩ hp ?_
  have fs : ∀ n, 6 ≤ n → sms n x.2 := fun n hn t ht => sm_up (sm_cg (h3 t ht)) hn
  have w2 : ∀ (ys : List Dt), sms 8 ys → BW (.tup ys) := fun ys h => ⟨sm_tup h, rfl⟩
  have l7 : ∀ (ys : List Dt), sms 7 ys → sm 8 (.lst ys) := fun ys h => sm_lst h
  have g6 : ∀ (ys : List Dt), sms 6 ys → sm 7 (.tup ys) := fun ys h => sm_tup h
  have o2 : ∀ n, 2 ≤ n → sm n o := fun n h => sm_up ho.s h
  have pr : ∀ (d : Dt), sm 8 d → BW (.tup [.str x.1, d]) := fun d h => w2 _ (sms_cons (sm_str _) (sms_cons h sms_nil))
  have l0 : sm 8 (.lst []) := l7 _ sms_nil
  have s_ : ∀ (z : Str) (n : Nat), sm n (.str z) := fun z n => sm_str z
  refine forall_cons ⟨sm_up ho.s (by decide), ho.w⟩ ?_
  refine forall_cons (w2 _ (sms_cons (o2 _ (by decide)) (sms_cons (l7 _ (fs _ (by decide))) sms_nil))) ?_
  refine forall_cons (pr _ (o2 _ (by decide))) ?_
  refine forall_cons (pr _ (l7 _ (sms_app (fs _ (by decide)) (sms_cons (o2 _ (by decide)) sms_nil)))) ?_
  refine forall_cons (w2 _ (sms_cons (sm_str _) sms_nil)) ?_
  refine forall_cons (w2 _ (sms_cons (sm_str _) (sms_cons (l7 _ (fs _ (by decide))) (sms_cons l0 sms_nil)))) ?_
  refine forall_cons (pr _ (l7 _ (sms_cons (g6 _ (sms_cons (sm_str _) sms_nil)) sms_nil))) ?_
  refine forall_cons (pr _ (l7 _ (sms_cons (g6 _ (sms_cons (sm_str _) (sms_cons (o2 _ (by decide)) sms_nil))) sms_nil))) ?_
  refine forall_cons (w2 _ (sms_cons (sm_str _) (sms_cons (l7 _ (fs _ (by decide))) sms_nil))) ?_
  refine forall_cons (pr _ l0) ?_
  refine forall_cons (pr _ (l7 _ (sms_cons (g6 _ (sms_cons (sm_str _) (sms_cons (sm_str _) (sms_cons (sm_str _) (sms_cons (sm_str _) (sms_cons (sm_str _) sms_nil)))))) sms_nil))) ?_
  refine forall_cons (pr _ (l7 _ (sms_cons (sm_str _) (sms_cons (sm_str _) (sms_cons (g6 _ (sms_cons (sm_str _) (sms_cons (sm_str _) sms_nil))) sms_nil))))) ?_
  refine forall_cons (pr _ (l7 _ (sms_cons (g6 _ (sms_cons (sm_str _) (sms_cons (sm_str _) (sms_cons (sm_str _) (sms_cons (sm_str _) (sms_cons (sm_str _) (sms_cons (sm_str _) sms_nil))))))) sms_nil))) ?_
  refine forall_cons ⟨sm_str _, rfl⟩ ?_
  exact forall_cons (pr _ (l7 _ (sms_cons (g6 _ (sms_cons (o2 _ (by decide)) (sms_cons (sm_str _) sms_nil))) sms_nil))) forall_nil
/-- a box that may be bent -/
inductive DB : Dt → Prop where
  | inp (z : Str) : DB (.tup [.str "in", .str z])
  | op (f : Str) (ws : List Wi) (h1 : 1 ≤ ws.length ∧ ws.length ≤ 4) (hw : ∀ x ∈ ws, x.1.length ≤ 10 ∧ x.2.length ≤ 20 ∧ ∀ t ∈ x.2, cg 7 t = true) : DB (.tup [.str "op", .str f, .lst (ws.map wD)])
def BB (d : Dt) : Prop := sm 11 d ∧ twB d = true
theorem sm_wD {x : Wi} (h : ∀ t ∈ x.2, cg 7 t = true) : sm 8 (wD x) := sm_tup (sms_cons (sm_str _) (sms_cons (sm_lst fun t ht => sm_cg (h t ht)) sms_nil))
theorem w_bent_box (T : Txt P K mg) : FnOk P w K mg base CX0 5 T.a_bent_box T.d_bent_box ["_law_state", "_law_box", "_law_odd"] (spW K false fun ds Pd _ => ∃ (b : Dt) (o : Dt), ds = [.st, b, o] ∧ DB b ∧ OddOk o ∧ ∀ d, BB d → Pd d) := by
  refine T.F_bent_box.ok sc_bent_box (fun vs H Q E h => w_len 3 h fun _ _ _ ⟨_, _, e, _⟩ => by rw [e]; rfl) (fun cdv A outer s H vs Q E hr h => ⟨_, PSs.nox (pss_cons (ps_if (pt_cmpR (uEq K (hu64 hr)) (pe_ix (uIxA K (hu64 hr)) (pv 1) pe_int (fun _ _ => rfl)) pe_str (nomark _)) (pss_one (ps_ret (pe_call (w_one T) (hr.mono (by omega)) rfl T.g_one T.F_one.kp T.b_one .nil pass0 (pa_cons (pv 0) (pa_cons (pe_lst (pa_cons (pv 2) (pa_cons (pe_tup (pa_cons pe_str (pa_cons (pv 2) pa_nil))) (pa_cons (pe_tup (pa_cons pe_str (pa_cons pe_str pa_nil))) (pa_cons (pe_tup (pa_cons pe_str (pa_cons pe_str (pa_cons pe_int pa_nil)))) (pa_cons (pe_tup (pa_cons pe_str (pa_cons pe_str pa_nil))) pa_nil)))))) pa_nil))))) pss_nil) (pss_cons (ps_par (i := 3) (j := 4) rfl sc_bent_box.nd rfl rfl (by decide) rfl rfl (pa_cons (pe_call (w_take T) (hr.mono (by omega)) rfl T.g_take T.F_take.kp T.b_take .nil pass0 (pa_cons (pv 0) (pa_cons (pe_callB (u_lenA K) rfl T.n_len (by decide +kernel) (pa_cons (pe_ix (uIxA K (hu64 hr)) (pv 1) pe_int (fun _ _ => rfl)) pa_nil)) pa_nil))) (pa_cons (pe_callTy (u_listA K rfl) rfl T.n_list (by decide +kernel) (pa_cons (pe_ix (uIxA K (hu64 hr)) (pv 1) pe_int (fun _ _ => rfl)) pa_nil)) pa_nil)) rfl rfl) (pss_cons (ps_asg (pe_call (w_bent_wire T) (hr.mono (by omega)) rfl T.g_bent_wire T.F_bent_wire.kp T.b_bent_wire .nil pass0 (pa_cons (pv 0) (pa_cons (pe_ix (uIxA K (hu64 hr)) (pv 4) (pv 3) (fun _ _ => rfl)) (pa_cons (pv 2) pa_nil)))) (pg_sub (pv 4) (pv 3) set_list)) (pss_cons (ps_set (i := 5) sc_bent_box.nd rfl (Or.inl rfl) (pe_lst (pa_cons (pv 2) (pa_cons (pe_tup (pa_cons pe_str (pa_cons (pv 2) (pa_cons (pe_ix (uIxA K (hu64 hr)) (pv 1) pe_int (fun _ _ => rfl)) pa_nil)))) (pa_cons (pe_tup (pa_cons pe_str (pa_cons (pe_ix (uIxA K (hu64 hr)) (pv 1) pe_int (fun _ _ => rfl)) (pa_cons (pv 2) pa_nil)))) (pa_cons (pe_tup (pa_cons pe_str (pa_cons (pe_ix (uIxA K (hu64 hr)) (pv 1) pe_int (fun _ _ => rfl)) (pa_cons (pe_lst pa_nil) pa_nil)))) (pa_cons (pe_tup (pa_cons pe_str (pa_cons (pe_ix (uIxA K (hu64 hr)) (pv 1) pe_int (fun _ _ => rfl)) (pa_cons (pe_op uMul (pe_ix (uIxA K (hu64 hr)) (pv 1) pe_int (fun _ _ => rfl)) pe_int) pa_nil)))) pa_nil))))))) (pss_one (ps_ret (pe_call (w_one T) (hr.mono (by omega)) rfl T.g_one T.F_one.kp T.b_one .nil pass0 (pa_cons (pv 0) (pa_cons (pe_op (uAdd K) (pe_op (uAdd K) (pv 5) (pe_op uMul (pe_lst (pa_cons (pe_tup (pa_cons pe_str (pa_cons (pe_ix (uIxA K (hu64 hr)) (pv 1) pe_int (fun _ _ => rfl)) (pa_cons (pv 4) pa_nil)))) pa_nil)) pe_int)) (pe_lst (pa_cons (pe_tup (pa_cons pe_str (pa_cons (pe_ix (uIxA K (hu64 hr)) (pv 1) pe_int (fun _ _ => rfl)) (pa_cons (pe_op (uAdd K) (pe_ix (uIxA K (hu64 hr)) (pv 1) pe_int (fun _ _ => rfl)) (pe_slice (uSlA K) (pe_ix (uIxA K (hu64 hr)) (pv 1) pe_int (fun _ _ => rfl)) po_none (po_some pe_int))) pa_nil)))) pa_nil))) pa_nil))))))))), w_start h 6 rfl fun ds Pd xe ⟨b, o, e, hb, ho, hp⟩ => ?_⟩)
  subst e
  refine ⟨Nat.le_of_ble_eq_true rfl, ?_⟩
  have t2 : ∀ (a b : Dt), sms 2 [a, b] → BB (.tup [a, b]) := fun a b h => ⟨sm_up (sm_tup h) (by decide), rfl⟩
  have t3 : ∀ (a b c : Dt), sm 10 a → sm 10 b → sm 10 c → (∀ l, itL c = some l → l.all twW = true) → BB (.tup [a, b, c]) := fun a b c h1 h2 h3 h => ⟨sm_tup (sms_cons h1 (sms_cons h2 (sms_cons h3 sms_nil))), by
    show (match itL c with | some l => l.all twW | none => true) = true
    cases e : itL c with
    | none => rfl
    | some l => exact h l e⟩
  have b0 : BB o := ⟨sm_up ho.s (by decide), ho.b⟩
  cases hb with
  | inp z =>
    refine wd_seq (wd_if ?_)
    ac_rfl
    refine Ef.et (ef_lst ?_)
    ac_rfl
    refine rone (p := BB) ⟨Nat.zero_lt_succ _, Nat.le_of_ble_eq_true rfl⟩ hp ?_
    refine forall_cons b0 (forall_cons (t2 _ _ (sms_cons (sm_str _) (sms_cons ho.s sms_nil))) (forall_cons (t2 _ _ (sms_cons (sm_str _) (sms_cons (sm_str _) sms_nil))) (forall_cons (t3 _ _ _ (sm_str _) (sm_str _) (sm_int _) (it_not rfl)) (forall_cons (t2 _ _ (sms_cons (sm_str _) (sms_cons (sm_str _) sms_nil))) forall_nil))))
  | op f ws h1 hw =>
    have hwz : ∀ d ∈ ws.map wD, sm 8 d ∧ twW d = true := fun d hd => by
      obtain ⟨x, hx, rfl⟩ := List.mem_map.mp hd
      exact ⟨sm_wD (hw x hx).2.2, rfl⟩
    refine wd_seq (wd_if ?_)
    ac_rfl
    refine (wd_parVO (et_call0 nolk (ea_cons (et_var rfl (ea_cons (et_cb rcl_len (ea_cons (et_op rop_ix (et_var rfl (et_int (fx2 rfl (ea_nil (lenLst (ea_nil ⟨_, rfl, ?_, fun k k1 k2 => ?_⟩))))))))))))))
    · rw [List.length_map]; omega
    rw [List.length_map] at k2
    obtain ⟨kn, rfl⟩ : ∃ kn : Nat, k = (kn : Int) := ⟨k.toNat, by omega⟩
    obtain ⟨x, hx⟩ : ∃ x, ws[kn]? = some x := ⟨ws[kn]'(by omega), by simp [show kn < ws.length by omega]⟩
    have hx2 : (ws.map wD)[kn]? = some (wD x) := by rw [List.getElem?_map, hx]; rfl
    refine ef_cb rcf_list (et_op rop_ix (et_var rfl (et_int (fx2 rfl ?_))))
    refine wd_seq (wd_lput rfl ?_)
    refine (et_call0 nolk (ea_cons (et_var rfl (ea_cons (et_ixO rfl (et_var rfl ⟨_, rfl, fxN rfl hx2 (ea_cons (et_var rfl (ea_nil ⟨x, o, rfl, hw x (List.mem_of_getElem? hx), ho, fun d hd => et_var rfl ⟨kn, _, rfl, rfl, by rw [List.length_map]; omega, ?_⟩⟩)))⟩))))))
    refine wd_seq (wd_asg (Ef.et (ef_lst ?_)))
    ac_rfl
    refine Ef.et (ef_lst ?_)
    ac_rfl
    refine ⟨by decide, by decide, by rw [List.length_map]; simp only [Zz, show (5 : Int).toNat = 5 from rfl]; omega, ?_⟩
    ac_rfl
    refine Ef.et (ef_lst ?_)
    ac_rfl
    refine et_own rfl ?_
    ac_rfl
    refine ⟨by decide, by decide, Nat.le_of_ble_eq_true rfl, addL (Nat.le_of_ble_eq_true rfl) ?_⟩
    refine Ef.et (ef_lst ?_)
    ac_rfl
    rw [show ctD (ws.map wD) none (some 1) = (ws.map wD).take 1 from ctD_to _ 1]
    refine addL (by rw [List.length_map, List.length_take, List.length_map]; simp only [Zz]; omega) ?_
    ac_rfl
    refine addL (Nat.le_of_ble_eq_true rfl) ?_
    ac_rfl
    have e5 : ∀ x : Dt, (List.replicate (5 : Int).toNat [x]).flatten = [x, x, x, x, x] := fun x => rfl
    rw [e5]
    have lw : ∀ l : List Dt, (∀ x ∈ l, sm 8 x ∧ twW x = true) → sm 10 (.lst l) ∧ ∀ l', itL (.lst l) = some l' → l'.all twW = true := fun l h => ⟨sm_up (sm_lst fun x hx => (h x hx).1) (by decide), fun l' e => by
      cases e
      exact List.all_eq_true.mpr fun x hx => (h x hx).2⟩
    have lw9 : ∀ l : List Dt, (∀ x ∈ l, sm 9 x ∧ twW x = true) → sm 10 (.lst l) ∧ ∀ l', itL (.lst l) = some l' → l'.all twW = true := fun l h => ⟨sm_up (sm_lst fun x hx => (h x hx).1) (by decide), fun l' e => by
      cases e
      exact List.all_eq_true.mpr fun x hx => (h x hx).2⟩
    have lws := lw _ hwz
    have lf := lw (List.replicate (5 : Int).toNat (ws.map wD)).flatten fun x hx => by
      obtain ⟨l, hl, hx⟩ := List.mem_flatten.mp hx
      rw [(List.mem_replicate.mp hl).2] at hx
      exact hwz x hx
    have ls := lw9 ((ws.map wD).set kn d) fun x hx => by
      rcases List.mem_or_eq_of_mem_set hx with hx | e
      · exact ⟨sm_up (hwz x hx).1 (by decide), (hwz x hx).2⟩
      · rw [e]; exact hd
    have la := lw (ws.map wD ++ (ws.map wD).take 1) fun x hx => by
      rcases List.mem_append.mp hx with hx | hx
      · exact hwz x hx
      · exact hwz x (List.mem_of_mem_take hx)
    have o10 : sm 10 o := sm_up ho.s (by decide)
    have xs : BB (.tup [.str "op", .str f, .lst ((ws.map wD).set kn d)]) := t3 _ _ _ (sm_str _) (sm_str _) ls.1 ls.2
    refine rone (p := BB) ⟨Nat.zero_lt_succ _, Nat.le_of_ble_eq_true rfl⟩ hp ?_
    refine forall_cons b0 (forall_cons (t3 _ _ _ (sm_str _) o10 lws.1 lws.2) (forall_cons (t3 _ _ _ (sm_str _) (sm_str _) o10 ho.l) ?_))
    refine forall_cons (t3 _ _ _ (sm_str _) (sm_str _) (lw [] (fun x h => by cases h)).1 (lw [] (fun x h => by cases h)).2) (forall_cons (t3 _ _ _ (sm_str _) (sm_str _) lf.1 lf.2) ?_)
    exact forall_cons xs (forall_cons xs (forall_cons xs (forall_cons xs (forall_cons xs (forall_cons (t3 _ _ _ (sm_str _) (sm_str _) la.1 la.2) forall_nil)))))
end
end Lw
namespace Lw
open PySem PySem.Spec PyProof.Rows L2 Evl Wv L2H
section
variable {P : Program} {w : World} {K : PySem.W.Frag} {mg : Str → Option Value} {base : Heap}
/-! ### errors told by words -/
def exT (T : Txt P K mg) : List (Addr × Str × Str) := [(T.c_BadBoxes, "thing", "boxes"), (T.c_BadBox, "name", "box"), (T.c_BadOutputs, "thing", "outputs"), (T.c_BadOutput, "name", "output"), (T.c_Ring, "name", "ring"), (T.c_BadTime, "time", "time"), (T.c_TooLong, "time", "long"), (T.c_BadMeaning, "meaning", "meaning"), (T.c_BadNet, "net", "net"), (T.c_BadLate, "late", "late"), (T.c_BadTimes, "times", "times"), (T.c_BadDistances, "distances", "distances"), (T.c_BadPeriod, "period", "period"), (T.c_HasNet, "period", "has net"), (T.c_BadInput, "name", "input"), (T.c_BadLag, "lag", "lag"), (T.c_BadText, "line", "text"), (T.c_BadMany, "many", "many")]
theorem exT_e (T : Txt P K mg) {i : Nat} {C : Addr} {y tag : Str} (h : (exT T)[i]? = some (C, y, tag)) : ExcC K C ∧ i < 18 := by
  match i, h with
  | 0, h => cases h; exact ⟨T.e_BadBoxes, by decide⟩
  | 1, h => cases h; exact ⟨T.e_BadBox, by decide⟩
  | 2, h => cases h; exact ⟨T.e_BadOutputs, by decide⟩
  | 3, h => cases h; exact ⟨T.e_BadOutput, by decide⟩
  | 4, h => cases h; exact ⟨T.e_Ring, by decide⟩
  | 5, h => cases h; exact ⟨T.e_BadTime, by decide⟩
  | 6, h => cases h; exact ⟨T.e_TooLong, by decide⟩
  | 7, h => cases h; exact ⟨T.e_BadMeaning, by decide⟩
  | 8, h => cases h; exact ⟨T.e_BadNet, by decide⟩
  | 9, h => cases h; exact ⟨T.e_BadLate, by decide⟩
  | 10, h => cases h; exact ⟨T.e_BadTimes, by decide⟩
  | 11, h => cases h; exact ⟨T.e_BadDistances, by decide⟩
  | 12, h => cases h; exact ⟨T.e_BadPeriod, by decide⟩
  | 13, h => cases h; exact ⟨T.e_HasNet, by decide⟩
  | 14, h => cases h; exact ⟨T.e_BadInput, by decide⟩
  | 15, h => cases h; exact ⟨T.e_BadLag, by decide⟩
  | 16, h => cases h; exact ⟨T.e_BadText, by decide⟩
  | 17, h => cases h; exact ⟨T.e_BadMany, by decide⟩
/-- an error from number lo on, told by its word and what it holds -/
def spErr (T : Txt P K mg) (lo : Nat) : SpE := fun a cls d vs H Q _ => ∃ (i : Nat) (C : Addr) (y tag : Str) (dd : Addr) (x : V), vs = [.ref a] ∧ (exT T)[i]? = some (C, y, tag) ∧ lo ≤ i ∧ cls = .ref C ∧ d = some dd ∧ H dd = some (.xd [(y, x)]) ∧ ∀ t, H t = none → Q (.ref t) (upd H t (.tup [.str tag, x]))
theorem ok_other_error (T : Txt P K mg) : FnC P w K mg base 1 T.a_other_error T.d_other_error ["_law_e"] (spErr T 8) := by
  refine T.F_other_error.okC sc_other_error (fun a cls d vs H Q E h => ?_) (fun cdv A outer s H vs Q E p cls d hz hf hr h => ?_)
  · obtain ⟨_, _, _, _, _, _, rfl, _⟩ := h
    rfl
  obtain ⟨i, C, y, tag, dd, x, rfl, hi, hl, rfl, rfl, hd, hQ⟩ := h
  have hE := (exT_e T hi).1
  refine ⟨_, (pss_cons (ps_if (pt_val (pe_callB (call_isP hE List.mem_cons_self hz hf) rfl T.n_isinstance (by decide +kernel) (pa_cons (pv 0) (pa_cons (pe_glob (v := .ref (T.c_BadNet)) rfl T.g_BadNet rfl) pa_nil)))) (pss_one (ps_ret (pe_tup (pa_cons pe_str (pa_cons (pe_xp T.y_BadNet T.X_BadNet.noY List.mem_cons_self hz hf (pv 0)) pa_nil))))) pss_nil) (pss_cons (ps_if (pt_val (pe_callB (call_isP hE List.mem_cons_self hz hf) rfl T.n_isinstance (by decide +kernel) (pa_cons (pv 0) (pa_cons (pe_glob (v := .ref (T.c_BadLate)) rfl T.g_BadLate rfl) pa_nil)))) (pss_one (ps_ret (pe_tup (pa_cons pe_str (pa_cons (pe_xp T.y_BadLate T.X_BadLate.noY List.mem_cons_self hz hf (pv 0)) pa_nil))))) pss_nil) (pss_cons (ps_if (pt_val (pe_callB (call_isP hE List.mem_cons_self hz hf) rfl T.n_isinstance (by decide +kernel) (pa_cons (pv 0) (pa_cons (pe_glob (v := .ref (T.c_BadTimes)) rfl T.g_BadTimes rfl) pa_nil)))) (pss_one (ps_ret (pe_tup (pa_cons pe_str (pa_cons (pe_xp T.y_BadTimes T.X_BadTimes.noY List.mem_cons_self hz hf (pv 0)) pa_nil))))) pss_nil) (pss_cons (ps_if (pt_val (pe_callB (call_isP hE List.mem_cons_self hz hf) rfl T.n_isinstance (by decide +kernel) (pa_cons (pv 0) (pa_cons (pe_glob (v := .ref (T.c_BadDistances)) rfl T.g_BadDistances rfl) pa_nil)))) (pss_one (ps_ret (pe_tup (pa_cons pe_str (pa_cons (pe_xp T.y_BadDistances T.X_BadDistances.noY List.mem_cons_self hz hf (pv 0)) pa_nil))))) pss_nil) (pss_cons (ps_if (pt_val (pe_callB (call_isP hE List.mem_cons_self hz hf) rfl T.n_isinstance (by decide +kernel) (pa_cons (pv 0) (pa_cons (pe_glob (v := .ref (T.c_BadPeriod)) rfl T.g_BadPeriod rfl) pa_nil)))) (pss_one (ps_ret (pe_tup (pa_cons pe_str (pa_cons (pe_xp T.y_BadPeriod T.X_BadPeriod.noY List.mem_cons_self hz hf (pv 0)) pa_nil))))) pss_nil) (pss_cons (ps_if (pt_val (pe_callB (call_isP hE List.mem_cons_self hz hf) rfl T.n_isinstance (by decide +kernel) (pa_cons (pv 0) (pa_cons (pe_glob (v := .ref (T.c_HasNet)) rfl T.g_HasNet rfl) pa_nil)))) (pss_one (ps_ret (pe_tup (pa_cons pe_str (pa_cons (pe_xp T.y_HasNet T.X_HasNet.noY List.mem_cons_self hz hf (pv 0)) pa_nil))))) pss_nil) (pss_cons (ps_if (pt_val (pe_callB (call_isP hE List.mem_cons_self hz hf) rfl T.n_isinstance (by decide +kernel) (pa_cons (pv 0) (pa_cons (pe_glob (v := .ref (T.c_BadInput)) rfl T.g_BadInput rfl) pa_nil)))) (pss_one (ps_ret (pe_tup (pa_cons pe_str (pa_cons (pe_xp T.y_BadInput T.X_BadInput.noY List.mem_cons_self hz hf (pv 0)) pa_nil))))) pss_nil) (pss_cons (ps_if (pt_val (pe_callB (call_isP hE List.mem_cons_self hz hf) rfl T.n_isinstance (by decide +kernel) (pa_cons (pv 0) (pa_cons (pe_glob (v := .ref (T.c_BadLag)) rfl T.g_BadLag rfl) pa_nil)))) (pss_one (ps_ret (pe_tup (pa_cons pe_str (pa_cons (pe_xp T.y_BadLag T.X_BadLag.noY List.mem_cons_self hz hf (pv 0)) pa_nil))))) pss_nil) (pss_cons (ps_if (pt_val (pe_callB (call_isP hE List.mem_cons_self hz hf) rfl T.n_isinstance (by decide +kernel) (pa_cons (pv 0) (pa_cons (pe_glob (v := .ref (T.c_BadText)) rfl T.g_BadText rfl) pa_nil)))) (pss_one (ps_ret (pe_tup (pa_cons pe_str (pa_cons (pe_xp T.y_BadText T.X_BadText.noY List.mem_cons_self hz hf (pv 0)) pa_nil))))) pss_nil) (pss_one (ps_ret (pe_ifExp (pt_val (pe_callB (call_isP hE List.mem_cons_self hz hf) rfl T.n_isinstance (by decide +kernel) (pa_cons (pv 0) (pa_cons (pe_glob (v := .ref (T.c_BadMany)) rfl T.g_BadMany rfl) pa_nil)))) (pe_tup (pa_cons pe_str (pa_cons (pe_xp T.y_BadMany T.X_BadMany.noY List.mem_cons_self hz hf (pv 0)) pa_nil))) (pe_tup (pa_cons pe_str (pa_cons pe_non pa_nil))))))))))))))), ?_⟩
  match i, hi, hl with
  | 0, hi, hl | 1, hi, hl | 2, hi, hl | 3, hi, hl | 4, hi, hl | 5, hi, hl | 6, hi, hl | 7, hi, hl => omega
  | 8, hi, hl =>
    obtain ⟨rfl, rfl, rfl⟩ : C = T.c_BadNet ∧ y = "net" ∧ tag = "net" := by cases hi; exact ⟨rfl, rfl, rfl⟩
    exact q_yes rfl hd (T.kx 8 8 _ _ rfl rfl) (q_tag rfl rfl hd hQ)
  | 9, hi, hl =>
    obtain ⟨rfl, rfl, rfl⟩ : C = T.c_BadLate ∧ y = "late" ∧ tag = "late" := by cases hi; exact ⟨rfl, rfl, rfl⟩
    refine q_no rfl hd (T.kx 9 8 _ _ rfl rfl) ?_
    exact q_yes rfl hd (T.kx 9 9 _ _ rfl rfl) (q_tag rfl rfl hd hQ)
  | 10, hi, hl =>
    obtain ⟨rfl, rfl, rfl⟩ : C = T.c_BadTimes ∧ y = "times" ∧ tag = "times" := by cases hi; exact ⟨rfl, rfl, rfl⟩
    refine q_no rfl hd (T.kx 10 8 _ _ rfl rfl) ?_
    refine q_no rfl hd (T.kx 10 9 _ _ rfl rfl) ?_
    exact q_yes rfl hd (T.kx 10 10 _ _ rfl rfl) (q_tag rfl rfl hd hQ)
  | 11, hi, hl =>
    obtain ⟨rfl, rfl, rfl⟩ : C = T.c_BadDistances ∧ y = "distances" ∧ tag = "distances" := by cases hi; exact ⟨rfl, rfl, rfl⟩
    refine q_no rfl hd (T.kx 11 8 _ _ rfl rfl) ?_
    refine q_no rfl hd (T.kx 11 9 _ _ rfl rfl) ?_
    refine q_no rfl hd (T.kx 11 10 _ _ rfl rfl) ?_
    exact q_yes rfl hd (T.kx 11 11 _ _ rfl rfl) (q_tag rfl rfl hd hQ)
  | 12, hi, hl =>
    obtain ⟨rfl, rfl, rfl⟩ : C = T.c_BadPeriod ∧ y = "period" ∧ tag = "period" := by cases hi; exact ⟨rfl, rfl, rfl⟩
    refine q_no rfl hd (T.kx 12 8 _ _ rfl rfl) ?_
    refine q_no rfl hd (T.kx 12 9 _ _ rfl rfl) ?_
    refine q_no rfl hd (T.kx 12 10 _ _ rfl rfl) ?_
    refine q_no rfl hd (T.kx 12 11 _ _ rfl rfl) ?_
    exact q_yes rfl hd (T.kx 12 12 _ _ rfl rfl) (q_tag rfl rfl hd hQ)
  | 13, hi, hl =>
    obtain ⟨rfl, rfl, rfl⟩ : C = T.c_HasNet ∧ y = "period" ∧ tag = "has net" := by cases hi; exact ⟨rfl, rfl, rfl⟩
    refine q_no rfl hd (T.kx 13 8 _ _ rfl rfl) ?_
    refine q_no rfl hd (T.kx 13 9 _ _ rfl rfl) ?_
    refine q_no rfl hd (T.kx 13 10 _ _ rfl rfl) ?_
    refine q_no rfl hd (T.kx 13 11 _ _ rfl rfl) ?_
    refine q_no rfl hd (T.kx 13 12 _ _ rfl rfl) ?_
    exact q_yes rfl hd (T.kx 13 13 _ _ rfl rfl) (q_tag rfl rfl hd hQ)
  | 14, hi, hl =>
    obtain ⟨rfl, rfl, rfl⟩ : C = T.c_BadInput ∧ y = "name" ∧ tag = "input" := by cases hi; exact ⟨rfl, rfl, rfl⟩
    refine q_no rfl hd (T.kx 14 8 _ _ rfl rfl) ?_
    refine q_no rfl hd (T.kx 14 9 _ _ rfl rfl) ?_
    refine q_no rfl hd (T.kx 14 10 _ _ rfl rfl) ?_
    refine q_no rfl hd (T.kx 14 11 _ _ rfl rfl) ?_
    refine q_no rfl hd (T.kx 14 12 _ _ rfl rfl) ?_
    refine q_no rfl hd (T.kx 14 13 _ _ rfl rfl) ?_
    exact q_yes rfl hd (T.kx 14 14 _ _ rfl rfl) (q_tag rfl rfl hd hQ)
  | 15, hi, hl =>
    obtain ⟨rfl, rfl, rfl⟩ : C = T.c_BadLag ∧ y = "lag" ∧ tag = "lag" := by cases hi; exact ⟨rfl, rfl, rfl⟩
    refine q_no rfl hd (T.kx 15 8 _ _ rfl rfl) ?_
    refine q_no rfl hd (T.kx 15 9 _ _ rfl rfl) ?_
    refine q_no rfl hd (T.kx 15 10 _ _ rfl rfl) ?_
    refine q_no rfl hd (T.kx 15 11 _ _ rfl rfl) ?_
    refine q_no rfl hd (T.kx 15 12 _ _ rfl rfl) ?_
    refine q_no rfl hd (T.kx 15 13 _ _ rfl rfl) ?_
    refine q_no rfl hd (T.kx 15 14 _ _ rfl rfl) ?_
    exact q_yes rfl hd (T.kx 15 15 _ _ rfl rfl) (q_tag rfl rfl hd hQ)
  | 16, hi, hl =>
    obtain ⟨rfl, rfl, rfl⟩ : C = T.c_BadText ∧ y = "line" ∧ tag = "text" := by cases hi; exact ⟨rfl, rfl, rfl⟩
    refine q_no rfl hd (T.kx 16 8 _ _ rfl rfl) ?_
    refine q_no rfl hd (T.kx 16 9 _ _ rfl rfl) ?_
    refine q_no rfl hd (T.kx 16 10 _ _ rfl rfl) ?_
    refine q_no rfl hd (T.kx 16 11 _ _ rfl rfl) ?_
    refine q_no rfl hd (T.kx 16 12 _ _ rfl rfl) ?_
    refine q_no rfl hd (T.kx 16 13 _ _ rfl rfl) ?_
    refine q_no rfl hd (T.kx 16 14 _ _ rfl rfl) ?_
    refine q_no rfl hd (T.kx 16 15 _ _ rfl rfl) ?_
    exact q_yes rfl hd (T.kx 16 16 _ _ rfl rfl) (q_tag rfl rfl hd hQ)
  | 17, hi, hl =>
    obtain ⟨rfl, rfl, rfl⟩ : C = T.c_BadMany ∧ y = "many" ∧ tag = "many" := by cases hi; exact ⟨rfl, rfl, rfl⟩
    refine q_no rfl hd (T.kx 17 8 _ _ rfl rfl) ?_
    refine q_no rfl hd (T.kx 17 9 _ _ rfl rfl) ?_
    refine q_no rfl hd (T.kx 17 10 _ _ rfl rfl) ?_
    refine q_no rfl hd (T.kx 17 11 _ _ rfl rfl) ?_
    refine q_no rfl hd (T.kx 17 12 _ _ rfl rfl) ?_
    refine q_no rfl hd (T.kx 17 13 _ _ rfl rfl) ?_
    refine q_no rfl hd (T.kx 17 14 _ _ rfl rfl) ?_
    refine q_no rfl hd (T.kx 17 15 _ _ rfl rfl) ?_
    refine q_no rfl hd (T.kx 17 16 _ _ rfl rfl) ?_
    exact ⟨_, rfl, ⟨_, hd⟩, .ref _, .ref _, true, rfl, fun _ r => r, T.kx 17 17 _ _ rfl rfl, true, rfl, q_tag rfl rfl hd hQ⟩
theorem ok_error (T : Txt P K mg) : FnC P w K mg base 2 T.a_error T.d_error ["_law_e"] (spErr T 0) := by
  refine T.F_error.okC sc_error (fun a cls d vs H Q E h => ?_) (fun cdv A outer s H vs Q E p cls d hz hf hr h => ?_)
  · obtain ⟨_, _, _, _, _, _, rfl, _⟩ := h
    rfl
  obtain ⟨i, C, y, tag, dd, x, rfl, hi, hl, rfl, rfl, hd, hQ⟩ := h
  have hE := (exT_e T hi).1
  refine ⟨_, (pss_cons (ps_if (pt_val (pe_callB (call_isP hE List.mem_cons_self hz hf) rfl T.n_isinstance (by decide +kernel) (pa_cons (pv 0) (pa_cons (pe_glob (v := .ref (T.c_BadBoxes)) rfl T.g_BadBoxes rfl) pa_nil)))) (pss_one (ps_ret (pe_tup (pa_cons pe_str (pa_cons (pe_xp T.y_BadBoxes T.X_BadBoxes.noY List.mem_cons_self hz hf (pv 0)) pa_nil))))) pss_nil) (pss_cons (ps_if (pt_val (pe_callB (call_isP hE List.mem_cons_self hz hf) rfl T.n_isinstance (by decide +kernel) (pa_cons (pv 0) (pa_cons (pe_glob (v := .ref (T.c_BadBox)) rfl T.g_BadBox rfl) pa_nil)))) (pss_one (ps_ret (pe_tup (pa_cons pe_str (pa_cons (pe_xp T.y_BadBox T.X_BadBox.noY List.mem_cons_self hz hf (pv 0)) pa_nil))))) pss_nil) (pss_cons (ps_if (pt_val (pe_callB (call_isP hE List.mem_cons_self hz hf) rfl T.n_isinstance (by decide +kernel) (pa_cons (pv 0) (pa_cons (pe_glob (v := .ref (T.c_BadOutputs)) rfl T.g_BadOutputs rfl) pa_nil)))) (pss_one (ps_ret (pe_tup (pa_cons pe_str (pa_cons (pe_xp T.y_BadOutputs T.X_BadOutputs.noY List.mem_cons_self hz hf (pv 0)) pa_nil))))) pss_nil) (pss_cons (ps_if (pt_val (pe_callB (call_isP hE List.mem_cons_self hz hf) rfl T.n_isinstance (by decide +kernel) (pa_cons (pv 0) (pa_cons (pe_glob (v := .ref (T.c_BadOutput)) rfl T.g_BadOutput rfl) pa_nil)))) (pss_one (ps_ret (pe_tup (pa_cons pe_str (pa_cons (pe_xp T.y_BadOutput T.X_BadOutput.noY List.mem_cons_self hz hf (pv 0)) pa_nil))))) pss_nil) (pss_cons (ps_if (pt_val (pe_callB (call_isP hE List.mem_cons_self hz hf) rfl T.n_isinstance (by decide +kernel) (pa_cons (pv 0) (pa_cons (pe_glob (v := .ref (T.c_Ring)) rfl T.g_Ring rfl) pa_nil)))) (pss_one (ps_ret (pe_tup (pa_cons pe_str (pa_cons (pe_xp T.y_Ring T.X_Ring.noY List.mem_cons_self hz hf (pv 0)) pa_nil))))) pss_nil) (pss_cons (ps_if (pt_val (pe_callB (call_isP hE List.mem_cons_self hz hf) rfl T.n_isinstance (by decide +kernel) (pa_cons (pv 0) (pa_cons (pe_glob (v := .ref (T.c_BadTime)) rfl T.g_BadTime rfl) pa_nil)))) (pss_one (ps_ret (pe_tup (pa_cons pe_str (pa_cons (pe_xp T.y_BadTime T.X_BadTime.noY List.mem_cons_self hz hf (pv 0)) pa_nil))))) pss_nil) (pss_cons (ps_if (pt_val (pe_callB (call_isP hE List.mem_cons_self hz hf) rfl T.n_isinstance (by decide +kernel) (pa_cons (pv 0) (pa_cons (pe_glob (v := .ref (T.c_TooLong)) rfl T.g_TooLong rfl) pa_nil)))) (pss_one (ps_ret (pe_tup (pa_cons pe_str (pa_cons (pe_xp T.y_TooLong T.X_TooLong.noY List.mem_cons_self hz hf (pv 0)) pa_nil))))) pss_nil) (pss_cons (ps_if (pt_val (pe_callB (call_isP hE List.mem_cons_self hz hf) rfl T.n_isinstance (by decide +kernel) (pa_cons (pv 0) (pa_cons (pe_glob (v := .ref (T.c_BadMeaning)) rfl T.g_BadMeaning rfl) pa_nil)))) (pss_one (ps_ret (pe_tup (pa_cons pe_str (pa_cons (pe_xp T.y_BadMeaning T.X_BadMeaning.noY List.mem_cons_self hz hf (pv 0)) pa_nil))))) pss_nil) (pss_one (ps_ret (pe_callC (ok_other_error T) (hr.mono (by omega)) List.mem_cons_self hz hf rfl T.g_other_error T.F_other_error.kp T.b_other_error (pa_cons (pv 0) pa_nil)))))))))))), ?_⟩
  match i, hi, hl with
  | 0, hi, hl =>
    obtain ⟨rfl, rfl, rfl⟩ : C = T.c_BadBoxes ∧ y = "thing" ∧ tag = "boxes" := by cases hi; exact ⟨rfl, rfl, rfl⟩
    exact q_yes rfl hd (T.kx 0 0 _ _ rfl rfl) (q_tag rfl rfl hd hQ)
  | 1, hi, hl =>
    obtain ⟨rfl, rfl, rfl⟩ : C = T.c_BadBox ∧ y = "name" ∧ tag = "box" := by cases hi; exact ⟨rfl, rfl, rfl⟩
    refine q_no rfl hd (T.kx 1 0 _ _ rfl rfl) ?_
    exact q_yes rfl hd (T.kx 1 1 _ _ rfl rfl) (q_tag rfl rfl hd hQ)
  | 2, hi, hl =>
    obtain ⟨rfl, rfl, rfl⟩ : C = T.c_BadOutputs ∧ y = "thing" ∧ tag = "outputs" := by cases hi; exact ⟨rfl, rfl, rfl⟩
    refine q_no rfl hd (T.kx 2 0 _ _ rfl rfl) ?_
    refine q_no rfl hd (T.kx 2 1 _ _ rfl rfl) ?_
    exact q_yes rfl hd (T.kx 2 2 _ _ rfl rfl) (q_tag rfl rfl hd hQ)
  | 3, hi, hl =>
    obtain ⟨rfl, rfl, rfl⟩ : C = T.c_BadOutput ∧ y = "name" ∧ tag = "output" := by cases hi; exact ⟨rfl, rfl, rfl⟩
    refine q_no rfl hd (T.kx 3 0 _ _ rfl rfl) ?_
    refine q_no rfl hd (T.kx 3 1 _ _ rfl rfl) ?_
    refine q_no rfl hd (T.kx 3 2 _ _ rfl rfl) ?_
    exact q_yes rfl hd (T.kx 3 3 _ _ rfl rfl) (q_tag rfl rfl hd hQ)
  | 4, hi, hl =>
    obtain ⟨rfl, rfl, rfl⟩ : C = T.c_Ring ∧ y = "name" ∧ tag = "ring" := by cases hi; exact ⟨rfl, rfl, rfl⟩
    refine q_no rfl hd (T.kx 4 0 _ _ rfl rfl) ?_
    refine q_no rfl hd (T.kx 4 1 _ _ rfl rfl) ?_
    refine q_no rfl hd (T.kx 4 2 _ _ rfl rfl) ?_
    refine q_no rfl hd (T.kx 4 3 _ _ rfl rfl) ?_
    exact q_yes rfl hd (T.kx 4 4 _ _ rfl rfl) (q_tag rfl rfl hd hQ)
  | 5, hi, hl =>
    obtain ⟨rfl, rfl, rfl⟩ : C = T.c_BadTime ∧ y = "time" ∧ tag = "time" := by cases hi; exact ⟨rfl, rfl, rfl⟩
    refine q_no rfl hd (T.kx 5 0 _ _ rfl rfl) ?_
    refine q_no rfl hd (T.kx 5 1 _ _ rfl rfl) ?_
    refine q_no rfl hd (T.kx 5 2 _ _ rfl rfl) ?_
    refine q_no rfl hd (T.kx 5 3 _ _ rfl rfl) ?_
    refine q_no rfl hd (T.kx 5 4 _ _ rfl rfl) ?_
    exact q_yes rfl hd (T.kx 5 5 _ _ rfl rfl) (q_tag rfl rfl hd hQ)
  | 6, hi, hl =>
    obtain ⟨rfl, rfl, rfl⟩ : C = T.c_TooLong ∧ y = "time" ∧ tag = "long" := by cases hi; exact ⟨rfl, rfl, rfl⟩
    refine q_no rfl hd (T.kx 6 0 _ _ rfl rfl) ?_
    refine q_no rfl hd (T.kx 6 1 _ _ rfl rfl) ?_
    refine q_no rfl hd (T.kx 6 2 _ _ rfl rfl) ?_
    refine q_no rfl hd (T.kx 6 3 _ _ rfl rfl) ?_
    refine q_no rfl hd (T.kx 6 4 _ _ rfl rfl) ?_
    refine q_no rfl hd (T.kx 6 5 _ _ rfl rfl) ?_
    exact q_yes rfl hd (T.kx 6 6 _ _ rfl rfl) (q_tag rfl rfl hd hQ)
  | 7, hi, hl =>
    obtain ⟨rfl, rfl, rfl⟩ : C = T.c_BadMeaning ∧ y = "meaning" ∧ tag = "meaning" := by cases hi; exact ⟨rfl, rfl, rfl⟩
    refine q_no rfl hd (T.kx 7 0 _ _ rfl rfl) ?_
    refine q_no rfl hd (T.kx 7 1 _ _ rfl rfl) ?_
    refine q_no rfl hd (T.kx 7 2 _ _ rfl rfl) ?_
    refine q_no rfl hd (T.kx 7 3 _ _ rfl rfl) ?_
    refine q_no rfl hd (T.kx 7 4 _ _ rfl rfl) ?_
    refine q_no rfl hd (T.kx 7 5 _ _ rfl rfl) ?_
    refine q_no rfl hd (T.kx 7 6 _ _ rfl rfl) ?_
    exact q_yes rfl hd (T.kx 7 7 _ _ rfl rfl) (q_tag rfl rfl hd hQ)
  | 8, hi, hl =>
    obtain ⟨rfl, rfl, rfl⟩ : C = T.c_BadNet ∧ y = "net" ∧ tag = "net" := by cases hi; exact ⟨rfl, rfl, rfl⟩
    refine q_no rfl hd (T.kx 8 0 _ _ rfl rfl) ?_
    refine q_no rfl hd (T.kx 8 1 _ _ rfl rfl) ?_
    refine q_no rfl hd (T.kx 8 2 _ _ rfl rfl) ?_
    refine q_no rfl hd (T.kx 8 3 _ _ rfl rfl) ?_
    refine q_no rfl hd (T.kx 8 4 _ _ rfl rfl) ?_
    refine q_no rfl hd (T.kx 8 5 _ _ rfl rfl) ?_
    refine q_no rfl hd (T.kx 8 6 _ _ rfl rfl) ?_
    refine q_no rfl hd (T.kx 8 7 _ _ rfl rfl) ?_
    exact ⟨_, rfl, 8, _, _, _, dd, x, rfl, hi, by omega, rfl, rfl, hd, hQ⟩
  | 9, hi, hl =>
    obtain ⟨rfl, rfl, rfl⟩ : C = T.c_BadLate ∧ y = "late" ∧ tag = "late" := by cases hi; exact ⟨rfl, rfl, rfl⟩
    refine q_no rfl hd (T.kx 9 0 _ _ rfl rfl) ?_
    refine q_no rfl hd (T.kx 9 1 _ _ rfl rfl) ?_
    refine q_no rfl hd (T.kx 9 2 _ _ rfl rfl) ?_
    refine q_no rfl hd (T.kx 9 3 _ _ rfl rfl) ?_
    refine q_no rfl hd (T.kx 9 4 _ _ rfl rfl) ?_
    refine q_no rfl hd (T.kx 9 5 _ _ rfl rfl) ?_
    refine q_no rfl hd (T.kx 9 6 _ _ rfl rfl) ?_
    refine q_no rfl hd (T.kx 9 7 _ _ rfl rfl) ?_
    exact ⟨_, rfl, 9, _, _, _, dd, x, rfl, hi, by omega, rfl, rfl, hd, hQ⟩
  | 10, hi, hl =>
    obtain ⟨rfl, rfl, rfl⟩ : C = T.c_BadTimes ∧ y = "times" ∧ tag = "times" := by cases hi; exact ⟨rfl, rfl, rfl⟩
    refine q_no rfl hd (T.kx 10 0 _ _ rfl rfl) ?_
    refine q_no rfl hd (T.kx 10 1 _ _ rfl rfl) ?_
    refine q_no rfl hd (T.kx 10 2 _ _ rfl rfl) ?_
    refine q_no rfl hd (T.kx 10 3 _ _ rfl rfl) ?_
    refine q_no rfl hd (T.kx 10 4 _ _ rfl rfl) ?_
    refine q_no rfl hd (T.kx 10 5 _ _ rfl rfl) ?_
    refine q_no rfl hd (T.kx 10 6 _ _ rfl rfl) ?_
    refine q_no rfl hd (T.kx 10 7 _ _ rfl rfl) ?_
    exact ⟨_, rfl, 10, _, _, _, dd, x, rfl, hi, by omega, rfl, rfl, hd, hQ⟩
  | 11, hi, hl =>
    obtain ⟨rfl, rfl, rfl⟩ : C = T.c_BadDistances ∧ y = "distances" ∧ tag = "distances" := by cases hi; exact ⟨rfl, rfl, rfl⟩
    refine q_no rfl hd (T.kx 11 0 _ _ rfl rfl) ?_
    refine q_no rfl hd (T.kx 11 1 _ _ rfl rfl) ?_
    refine q_no rfl hd (T.kx 11 2 _ _ rfl rfl) ?_
    refine q_no rfl hd (T.kx 11 3 _ _ rfl rfl) ?_
    refine q_no rfl hd (T.kx 11 4 _ _ rfl rfl) ?_
    refine q_no rfl hd (T.kx 11 5 _ _ rfl rfl) ?_
    refine q_no rfl hd (T.kx 11 6 _ _ rfl rfl) ?_
    refine q_no rfl hd (T.kx 11 7 _ _ rfl rfl) ?_
    exact ⟨_, rfl, 11, _, _, _, dd, x, rfl, hi, by omega, rfl, rfl, hd, hQ⟩
  | 12, hi, hl =>
    obtain ⟨rfl, rfl, rfl⟩ : C = T.c_BadPeriod ∧ y = "period" ∧ tag = "period" := by cases hi; exact ⟨rfl, rfl, rfl⟩
    refine q_no rfl hd (T.kx 12 0 _ _ rfl rfl) ?_
    refine q_no rfl hd (T.kx 12 1 _ _ rfl rfl) ?_
    refine q_no rfl hd (T.kx 12 2 _ _ rfl rfl) ?_
    refine q_no rfl hd (T.kx 12 3 _ _ rfl rfl) ?_
    refine q_no rfl hd (T.kx 12 4 _ _ rfl rfl) ?_
    refine q_no rfl hd (T.kx 12 5 _ _ rfl rfl) ?_
    refine q_no rfl hd (T.kx 12 6 _ _ rfl rfl) ?_
    refine q_no rfl hd (T.kx 12 7 _ _ rfl rfl) ?_
    exact ⟨_, rfl, 12, _, _, _, dd, x, rfl, hi, by omega, rfl, rfl, hd, hQ⟩
  | 13, hi, hl =>
    obtain ⟨rfl, rfl, rfl⟩ : C = T.c_HasNet ∧ y = "period" ∧ tag = "has net" := by cases hi; exact ⟨rfl, rfl, rfl⟩
    refine q_no rfl hd (T.kx 13 0 _ _ rfl rfl) ?_
    refine q_no rfl hd (T.kx 13 1 _ _ rfl rfl) ?_
    refine q_no rfl hd (T.kx 13 2 _ _ rfl rfl) ?_
    refine q_no rfl hd (T.kx 13 3 _ _ rfl rfl) ?_
    refine q_no rfl hd (T.kx 13 4 _ _ rfl rfl) ?_
    refine q_no rfl hd (T.kx 13 5 _ _ rfl rfl) ?_
    refine q_no rfl hd (T.kx 13 6 _ _ rfl rfl) ?_
    refine q_no rfl hd (T.kx 13 7 _ _ rfl rfl) ?_
    exact ⟨_, rfl, 13, _, _, _, dd, x, rfl, hi, by omega, rfl, rfl, hd, hQ⟩
  | 14, hi, hl =>
    obtain ⟨rfl, rfl, rfl⟩ : C = T.c_BadInput ∧ y = "name" ∧ tag = "input" := by cases hi; exact ⟨rfl, rfl, rfl⟩
    refine q_no rfl hd (T.kx 14 0 _ _ rfl rfl) ?_
    refine q_no rfl hd (T.kx 14 1 _ _ rfl rfl) ?_
    refine q_no rfl hd (T.kx 14 2 _ _ rfl rfl) ?_
    refine q_no rfl hd (T.kx 14 3 _ _ rfl rfl) ?_
    refine q_no rfl hd (T.kx 14 4 _ _ rfl rfl) ?_
    refine q_no rfl hd (T.kx 14 5 _ _ rfl rfl) ?_
    refine q_no rfl hd (T.kx 14 6 _ _ rfl rfl) ?_
    refine q_no rfl hd (T.kx 14 7 _ _ rfl rfl) ?_
    exact ⟨_, rfl, 14, _, _, _, dd, x, rfl, hi, by omega, rfl, rfl, hd, hQ⟩
  | 15, hi, hl =>
    obtain ⟨rfl, rfl, rfl⟩ : C = T.c_BadLag ∧ y = "lag" ∧ tag = "lag" := by cases hi; exact ⟨rfl, rfl, rfl⟩
    refine q_no rfl hd (T.kx 15 0 _ _ rfl rfl) ?_
    refine q_no rfl hd (T.kx 15 1 _ _ rfl rfl) ?_
    refine q_no rfl hd (T.kx 15 2 _ _ rfl rfl) ?_
    refine q_no rfl hd (T.kx 15 3 _ _ rfl rfl) ?_
    refine q_no rfl hd (T.kx 15 4 _ _ rfl rfl) ?_
    refine q_no rfl hd (T.kx 15 5 _ _ rfl rfl) ?_
    refine q_no rfl hd (T.kx 15 6 _ _ rfl rfl) ?_
    refine q_no rfl hd (T.kx 15 7 _ _ rfl rfl) ?_
    exact ⟨_, rfl, 15, _, _, _, dd, x, rfl, hi, by omega, rfl, rfl, hd, hQ⟩
  | 16, hi, hl =>
    obtain ⟨rfl, rfl, rfl⟩ : C = T.c_BadText ∧ y = "line" ∧ tag = "text" := by cases hi; exact ⟨rfl, rfl, rfl⟩
    refine q_no rfl hd (T.kx 16 0 _ _ rfl rfl) ?_
    refine q_no rfl hd (T.kx 16 1 _ _ rfl rfl) ?_
    refine q_no rfl hd (T.kx 16 2 _ _ rfl rfl) ?_
    refine q_no rfl hd (T.kx 16 3 _ _ rfl rfl) ?_
    refine q_no rfl hd (T.kx 16 4 _ _ rfl rfl) ?_
    refine q_no rfl hd (T.kx 16 5 _ _ rfl rfl) ?_
    refine q_no rfl hd (T.kx 16 6 _ _ rfl rfl) ?_
    refine q_no rfl hd (T.kx 16 7 _ _ rfl rfl) ?_
    exact ⟨_, rfl, 16, _, _, _, dd, x, rfl, hi, by omega, rfl, rfl, hd, hQ⟩
  | 17, hi, hl =>
    obtain ⟨rfl, rfl, rfl⟩ : C = T.c_BadMany ∧ y = "many" ∧ tag = "many" := by cases hi; exact ⟨rfl, rfl, rfl⟩
    refine q_no rfl hd (T.kx 17 0 _ _ rfl rfl) ?_
    refine q_no rfl hd (T.kx 17 1 _ _ rfl rfl) ?_
    refine q_no rfl hd (T.kx 17 2 _ _ rfl rfl) ?_
    refine q_no rfl hd (T.kx 17 3 _ _ rfl rfl) ?_
    refine q_no rfl hd (T.kx 17 4 _ _ rfl rfl) ?_
    refine q_no rfl hd (T.kx 17 5 _ _ rfl rfl) ?_
    refine q_no rfl hd (T.kx 17 6 _ _ rfl rfl) ?_
    refine q_no rfl hd (T.kx 17 7 _ _ rfl rfl) ?_
    exact ⟨_, rfl, 17, _, _, _, dd, x, rfl, hi, by omega, rfl, rfl, hd, hQ⟩
end
end Lw
namespace LamX
open PySem PySem.Spec PyProof.Rows L2
/-- x(lambda: body), of a def's facts -/
theorem pe_lamF {X : Cx} {T : List (Addr × Str)} {TT : (XK → Hp → VK → Prop) → Hp → VK → Prop} {x a : Str} {g c P : Addr} {pg : Arguments} {bg : List Stmt} {sg : Scope} {Ng : List Str} {fd : FuncData}
    {params : Arguments} {body : Expr} {scope : Scope} {t : XK → TE} {p lpos pos : Pos} (k : Nat) (hg : Gl X x) (hm : X.mg x = some (.ref g)) (F : FunD X.K x x pg bg sg [] [] g fd) (hb : L2.Binds X.K fd [a] []) (Sg : FnScope Ng [a] sg) (hNg : Ng[0]? = some a) (hva : Vis sg a)
    (hG : ∀ cdv, GivesTo X Ng x sg g cdv bg a (X.env.qual ++ "<lambda>") TT)
    (TB : TabB X.base X.mg c P) (hcode : X.env.code = .ref c) (hmT : (P, X.env.qual ++ "<lambda>") ∈ T) (hu : ∀ p ∈ T, p.1 = P → p.2 = X.env.qual ++ "<lambda>") (hr : Room (k + 2) X.A) (L : LamS X.env.scope scope) (hdef : defaultsOf params X.env = ([], []))
    (hbind : ∀ (q : Str) (cl : List (Str × Addr)) (pm cv ctv : Value), bindArgs (PySem.W.kla_fn "<lambda>" q params body scope cl pm cv ctv) ⟨[], []⟩ = pure [])
    (hbody : ∀ (A : Around) (outer : List Env) (s : Shared) (H : Hp) (E : XK) (f c' : Addr), Room k (A.deeper (lamEnv X scope s.heap.objs.size f c')) → PE (lamCx X A outer s H E scope f c') body (t E))
    (hdb : (x == ("__debug__" : Str)) = false := by decide) (hd : (a == ("__debug__" : Str)) = false := by decide) (hcd : (a == ("__classdict__" : Str)) = false := by decide) :
    PE X (.Call (.Name x p) [.Lambda params body scope lpos] [] pos) (tLamP P T TT t) := by
  obtain ⟨oc, od, dV, kV, doc, pm, an, cdv, ct, osl, rfl, lk, hcd', _, _⟩ := F.ex
  exact pe_lamcallP hg hm F.kp lk hcd' hb Sg hNg hva (hG cdv) TB hcode hmT hu hr L hdef hbind hbody hdb hd hcd
end LamX
namespace Lw
open PySem PySem.Spec PyProof.Rows L2 Evl Wv L2H LamX
section
/-! ### a call tried -/
def tVarL (i : Nat) : TE := fun σ H Q => i < σ.length → tVar i σ H Q
theorem pe_varL {X : Cx} {i : Nat} {x : Str} {pos : Pos} (hN : X.N[i]? = some x) (hv : Vis X.env.scope x) (hd : (x == ("__debug__" : Str)) = false := by decide) (hcd : (x == ("__classdict__" : Str)) = false := by decide) : PE X (.Name x pos) (tVarL i) :=
  ⟨fun pins s σ H Q I h => (pe_var (pos := pos) (i := i) hN hv hd hcd).run pins s σ H Q I (h (by rw [I.len]; exact (List.getElem?_eq_some_iff.mp hN).1))⟩
theorem roomH_mark {k : Nat} {A : Around} {v : Option Value} (r : RoomH k A) : RoomH k (A.mark v) := ⟨r.dp, r.un⟩
theorem tried_gives {X : Cx} (T : Txt X.prog X.K X.mg) {cdv : Value} {q : Str} (hr : Room 5 X.A) : GivesTo X ["_law_deed", "_law_e"] "_law_tried" (defScope s_tried) T.a_tried cdv (defBody s_tried) "_law_deed" q (TTr (exT T)) := by
  intro f c' s H Q tl act hc h
  have hrA : RoomH 4 (X.A.deeper (envOfC "_law_tried" (defScope s_tried) s.heap.objs.size T.a_tried cdv)) := (roomH_of hr).deeper _
  refine ⟨_, pss_one (ps_try_as (X := (cxOf C8.CX0 X.prog X.w X.K X.mg X.base ["_law_deed", "_law_e"] "_law_tried" (defScope s_tried) T.a_tried cdv X.A X.stack s H C8.E0).nox) (i := 1) (c := .ref T.c_NetError)
      (tb := fun W D σ H => ∃ Ech : XK, (∀ cls d σ' H', Ech cls d H' → W cls d σ' H') ∧ σ[0]? = some (some (.ref f)) ∧ H c' = some (CodeO c' q) ∧ tl Ech H fun v H1 => ([V.str "told", v] : List V).length ≤ sizeLine ∧ ∀ t, H1 t = none → D.rt (.ref t) (upd H1 t (.tup [.str "told", v])))
      (ts := fun a cls d => tRet (tCallC (spErr T 0) a cls d (tCons (tVarL 1) tNil)))
      rfl rfl sc_tried.nd rfl rfl ⟨rfl, by decide, .inl T.g_NetError⟩ LamX.takes0 (fun W pn xe tk _ => ?_) (fun a oe cls d pn hz hf => pss_one (ps_ret (pe_callC (p := (a, oe)) (ok_error T) (roomH_mark (hrA.mono (by decide))) List.mem_cons_self hz hf rfl T.g_error T.F_error.kp T.b_error (pa_cons (pe_varL (i := 1) rfl (.inl rfl)) pa_nil))))), ?_⟩
  · refine ⟨fun pins s' σ H' D I h' => ?_⟩
    obtain ⟨Ech, hW, h1, h2, h3⟩ := h'
    refine PSs.run (pss_one (ps_ret (pe_tup (pa_cons pe_str (pa_cons (act W pn xe Ech _ _ tk hW) pa_nil))))) pins s' σ H' D I ?_
    exact ⟨h1, h2, h3⟩
  · refine ⟨_, fun cls d σ' H' h' => ?_, rfl, hc, h⟩
    obtain ⟨i, C, y, tag, dd, x, hi, rfl, rfl, hd, hQ⟩ := h'
    refine ⟨true, ?_, fun _ a ha => ?_, fun z => nomatch z⟩
    · refine T.nx C ?_
      have := List.mem_of_getElem? hi
      unfold exT at this
      have := List.mem_map_of_mem (f := (·.1)) this
      exact this
    · exact fun hlt => ⟨.ref a, by rw [List.getElem?_set_self (by simpa using hlt)], i, C, y, tag, dd, x, rfl, hi, Nat.zero_le _, rfl, rfl, hd, hQ⟩
end
end Lw
namespace Lw
open PySem PySem.Spec PyProof.Rows L2 Evl Wv
/-! ### a law starts -/
def lamQ : Str := (("law" : Str) ++ ".<locals>.") ++ "<lambda>"
/-- what a law is handed: the script's list, the empty tables of code objects -/
def spLawT (K : PySem.W.Frag) (cs : List (Addr × Addr)) : Sp := fun vs H Q _ => ∃ (a : Addr) (ns : List Int), vs = [.ref a] ∧ SqL K H a (ns.map V.int) ∧ ns.length ≤ 63 ∧ (∀ p ∈ cs, H p.2 = some (.tbl #[])) ∧ ∀ H', Q (.bl true) H'
theorem law_begin {K : PySem.W.Frag} {E : XK} {N : List Str} {vs : List V} {H : Hp} {Q : VK} {t : TS} {cs : List (Addr × Addr)} (h : spLawT K cs vs H Q E) (n : Nat) (hN : N.length = n + 2)
    (hw : Wd ⟨K, E, fun _ _ => False, true, cs.map fun p => (p.2, lamQ)⟩ (.no :: .v .st :: List.replicate n .no) t { nx := fun _ => False, rt := fun d => d = .bl true }) :
    tSeq (tAsg (tCall (spFresh K) [] E0 (tCons (tVar 0) tNil)) (gName 1)) t { nx := fun _ H' => Q .non H', rt := Q } (L2.start N vs) H := by
  obtain ⟨a, ns, rfl, hS, hl, hT, hQ⟩ := h
  have es : L2.start N [V.ref a] = some (.ref a) :: none :: List.replicate n none := by
    unfold L2.start
    rw [hN]
    rfl
  rw [es]
  refine ⟨_, rfl, a, ns, rfl, hS, hl, fun s c ns' H1 hs hc hc1 e1 S1 => ?_⟩
  obtain ⟨n0, l0, m0, S4⟩ := S1
  have tb : LamX.Tabs (cs.map fun p => (p.2, lamQ)) H1 := fun p hp => by
    obtain ⟨q, hq, rfl⟩ := List.mem_map.mp hp
    exact LamX.TabS.nil (e1 _ _ (hT q hq))
  have dm : ∀ b, (b = s ∨ b = c ∨ ∃ q, (b, q) ∈ cs.map fun p => (p.2, lamQ)) → H1 b ≠ none := fun b hb => by
    rcases hb with rfl | rfl | ⟨q, hq⟩
    · rw [S4.st]; exact fun z => nomatch z
    · exact hc1
    · obtain ⟨_, h1, _⟩ := tb _ hq
      have h1 : H1 b = _ := h1
      rw [h1]; exact fun z => nomatch z
  refine hw ⟨H1, some s, ⟨c, cs.map fun p => (p.2, lamQ)⟩, fun b => b = s ∨ b = c ∨ ∃ q, (b, q) ∈ cs.map fun p => (p.2, lamQ), true, true⟩ ⟨rfl, fun _ _ z => z.elim, .inr rfl⟩ (some (.ref a) :: some (.ref s) :: List.replicate n none) H1 ⟨⟨Ko.refl, id, fun b hb => ?_, dm, ⟨⟨ns', n0, l0, m0, S4⟩, tb⟩⟩, ?_, fun i j d e b z => ?_, fun i d z => ?_, fun i d z => ?_⟩ _
    (fun _ _ _ _ _ z => z.elim) (fun _ _ _ _ _ z => z.elim) (fun _ _ _ _ _ z => z.elim) fun x d H' e _ _ r => ?_
  · rcases hb with z | z
    · exact ⟨.inl (Option.some.inj z).symm, fun _ _ => .inr (.inl rfl)⟩
    · exact ⟨.inr (.inr z), fun _ _ => .inr (.inl rfl)⟩
  · simp
  · exfalso
    match i, z with
    | 0, z => cases z
    | 1, z => cases z
    | i + 2, z =>
      have z : (List.replicate n Sl.no)[i]? = _ := z
      rw [List.getElem?_replicate] at z
      split at z <;> cases z
  · match i, z with
    | 0, z => cases z
    | 1, z => cases z; exact ⟨.ref s, rfl, .st rfl⟩
    | i + 2, z =>
      have z : (List.replicate n Sl.no)[i]? = _ := z
      rw [List.getElem?_replicate] at z
      split at z <;> cases z
  · exfalso
    match i, z with
    | 0, z => cases z
    | 1, z => cases z
    | i + 2, z =>
      have z : (List.replicate n Sl.no)[i]? = _ := z
      rw [List.getElem?_replicate] at z
      split at z <;> cases z
  · subst e
    cases r
    exact hQ H'
/-- what a law without calls that are tried is handed -/
def spLaw (K : PySem.W.Frag) : Sp := fun vs H Q _ => ∃ (a : Addr) (ns : List Int), vs = [.ref a] ∧ SqL K H a (ns.map V.int) ∧ ns.length ≤ 63 ∧ ∀ H', Q (.bl true) H'
theorem spLaw.t {K : PySem.W.Frag} {vs : List V} {H : Hp} {Q : VK} {E : XK} (h : spLaw K vs H Q E) : spLawT K [] vs H Q E := by
  obtain ⟨a, ns, h1, h2, h3, h4⟩ := h
  exact ⟨a, ns, h1, h2, h3, fun p hp => (by cases hp), h4⟩
end Lw
namespace L2
open PySem PySem.Spec PyProof.Rows
/-- a def's rule that also tells its code object -/
theorem FunD.okD {P : Program} {w : World} {K : PySem.W.Frag} {mg : Str → Option Value} {base : Heap} {x qual : Str} {params : Arguments} {body : List Stmt} {scope : Scope} {dvs : List V} {kws : List (Str × V)} {f : Addr} {fd : FuncData}
    {CX : CXT} {N ps : List Str} {k : Nat} {sp : Sp} (F : FunD K x qual params body scope dvs kws f fd) (S : FnScope N ps scope) (len : ∀ vs H Q E, sp vs H Q E → vs.length = ps.length)
    (hbody : ∀ (cdv : Value), fd.code = cdv → ∀ (A : Around) (outer : List Env) (s : Shared) (H : Hp) (vs : List V) (Q : VK) (E : XK), Room k (A.deeper (envOfC qual scope s.heap.objs.size f cdv)) → sp vs H Q E →
      ∃ t, PSs (cxOf CX P w K mg base N qual scope f cdv A outer s H E) body t ∧ t { nx := fun _ H' => Q .non H', rt := Q } (start N vs) H) : FnOk P w K mg base CX (k + 1) f fd ps sp := by
  obtain ⟨oc, od, dV, kV, doc, pm, an, cdv, ct, osl, rfl, lk, hcd, _, _⟩ := F.ex
  exact fn_of lk hcd S len fun A outer s H vs Q E hr hsp => hbody cdv (by with_unfolding_all rfl) A outer s H vs Q E hr hsp
end L2
namespace Lw
open PySem PySem.Spec PyProof.Rows L2 Evl Wv
theorem tried_in {X : Cx} {P : Program} {K : PySem.W.Frag} {mg : Str → Option Value} (T : Txt P K mg) (hP : X.prog = P) (hK : X.K = K) (hm : X.mg = mg) {cdv : Value} {q : Str} (hr : Room 5 X.A) : LamX.GivesTo X ["_law_deed", "_law_e"] "_law_tried" (defScope s_tried) T.a_tried cdv (defBody s_tried) "_law_deed" q (TTr (exT T)) := by
  subst hP hK hm
  exact tried_gives T hr
end Lw
/-! Written dicts whose values are any trees. -/
namespace Wv
open PySem PySem.Spec PyProof.Rows L2 Evl
section
variable {g : Gx} {c : Cc} {H : Hp} {σ : L2.St} {env : List Sl} {P : Dt → List Sl → Prop} {so : Option Addr} {O : Addr → Prop}
/-- the pairs of a display: texts, trees -/
def Ep (g : Gx) (env : List Sl) (trs : List (TE × TE)) (R : List (Str × Dt) → List Sl → Prop) : Prop := ∀ c, Lk g c → ∀ σ H, Sv g.K c H σ env → ∀ Q : List (V × V) → Hp → Prop,
  (∀ (xs : List (Str × V)) ds env' H1, R ds env' → Sv g.K c H1 σ env' → Le env' env → Ko (Mv c σ env) (An c σ env) H H1 → Tb c.so (Av c σ env') H1 xs ds → Q (xs.map fun p => (.str p.1, p.2)) H1) → tPairs trs σ H Q
theorem ep_nil {R : List (Str × Dt) → List Sl → Prop} (h : R [] env) : Ep g env [] R := fun c L σ H S Q q => q [] [] env H h S Le.refl Ko.refl Tb.nil
theorem ep_cons {k : Str} {tv : TE} {r : List (TE × TE)} {R : List (Str × Dt) → List Sl → Prop} (h : Et g env tv fun d e1 => Ep g e1 r fun ds e2 => R ((k, d) :: ds) e2) : Ep g env ((tC (.str k), tv) :: r) R := fun c L σ H S Q q =>
  h c L σ H S _ fun x d e1 H1 p1 S1 l1 k1 r1 => p1 c L σ H1 S1 _ fun xs ds e2 H2 p2 S2 l2 k2 t2 =>
    q ((k, x) :: xs) ((k, d) :: ds) e2 H2 p2 S2 (l1.trans l2) (k1.trans (k2.le l1)) (Tb.cons ((S1.kp r1 k2).mono (Av.le l2)) t2)
def dispE (kvs : List (Str × Dt)) : List (Key × Dt) := kvs.foldl (fun a kv => dpt a (.inr kv.1) kv.2) []
theorem tb_dispE : ∀ {xs : List (Str × V)} {es : List (Str × Dt)} (ys : List (Key × V)) (ds : List (Key × Dt)), Tb so O H xs es → Tb so O H ys ds → Tb so O H (L2.mergeK ys (xs.map fun kv => ((.inr kv.1 : Key), kv.2))) (es.foldl (fun a kv => dpt a (.inr kv.1) kv.2) ds)
  | [], [], _, _, _, h => h
  | [], _ :: _, _, _, h, _ => by have := h.len; simp at this
  | _ :: _, [], _, _, h, _ => by have := h.len; simp at this
  | p :: xs, q :: es, ys, ds, h, k => by
    obtain ⟨h1, h2, h3⟩ := h.tail
    rw [List.map_cons, List.foldl_cons]
    show Tb so O H (L2.mergeK (putK ys (.inr p.1) p.2) (xs.map fun kv => ((.inr kv.1 : Key), kv.2))) _
    rw [h1]
    exact tb_dispE _ _ h3 (k.put h2)
theorem dispE_len : ∀ (kvs : List (Str × Dt)) (ds : List (Key × Dt)), (kvs.foldl (fun a kv => dpt a (.inr kv.1) kv.2) ds).length ≤ ds.length + kvs.length
  | [], ds => Nat.le_refl _
  | kv :: r, ds => by
    have h1 := dispE_len r (dpt ds (.inr kv.1) kv.2)
    have h2 := dpt_len ds (.inr kv.1) kv.2
    rw [List.foldl_cons, List.length_cons]
    omega
theorem ef_dispE {trs : List (TE × TE)} (h : Ep g env trs fun ds e => ds.length ≤ 15 ∧ P (.dct (dispE ds)) e) : Ef g env (tDisp trs) P := fun c L σ H S Q q a ha => by
  have S1 : Sv g.K (c.add a) (upd H a (.dK [])) σ env := S.add ha
  have ne : ∀ s, c.so = some s → a ≠ s ∧ a ≠ c.cc.cc := fun s z => ⟨fun w => S.dom s (S.sO s (.inl z)).1 (by rw [← w]; exact ha), fun w => S.dom c.cc.cc ((S.sO s (.inl z)).2 s z) (by rw [← w]; exact ha)⟩
  refine h (c.add a) (L.add S.sO) σ _ S1 _ fun xs ds e1 H1 ⟨hl, p⟩ S2 l k t => ?_
  have nm : ¬ Mv (c.add a) σ env a := fun z => by
    rcases z with z | ⟨i, d, z1, z2⟩
    · exact fresh_so S ha a z rfl
    · obtain ⟨y, w1, _, w3, _⟩ := S1.own i d z1
      rw [z2] at w1
      cases w1
      exact w3 (.inr rfl)
  have hH1 : H1 a = some (.dK []) := by
    rw [k.same nm (.inr (.inl (.inr rfl))) (by rw [upd_same]; exact fun z => nomatch z), upd_same]
  have hxl : xs.length ≤ 15 := by rw [t.len]; exact hl
  refine ⟨hH1, xs.map fun kv => ((.inr kv.1 : Key), kv.2), by rw [List.map_map]; rfl, by rw [List.length_map]; exact hxl, ?_⟩
  have S3 := S2.wrO (o := .dK (L2.mergeK [] (xs.map fun kv => ((.inr kv.1 : Key), kv.2)))) (.inr rfl) ne (base_none S ha) ⟨_, hH1, (fun _ z => nomatch z), (fun _ z => nomatch z)⟩
  have tb : Tb c.so (Av (c.add a) σ e1) (upd H1 a (.dK (L2.mergeK [] (xs.map fun kv => ((.inr kv.1 : Key), kv.2))))) _ (dispE ds) := (tb_dispE [] [] t Tb.nil).keep (A := c.O) (Ko.mut (.inl (.inr rfl)))
  refine q a (.dct (dispE ds)) e1 _ p S3 l ?_ ha ⟨_, upd_same, tb.1, ?_, tb.2⟩
  · refine ⟨fun b u n hb => ?_, fun b hb => ?_⟩
    · have hne : b ≠ a := fun e => by rw [e, ha] at hb; cases hb
      rw [upd_ne hne]
      rcases k.1 b u n (by rw [upd_ne hne]; exact hb) with z | ⟨z, w⟩
      · exact .inl z
      · exact .inr ⟨fun q => z (by
          rcases q with q | q | q
          · exact .inl q
          · exact .inr (.inl (.inl q))
          · exact .inr (.inr q)), w⟩
    · exact upd_some (k.2 b (upd_some hb))
  · have := dispE_len ds []
    have h2 : (dispE ds).length ≤ 15 := Nat.le_trans this (by simpa using hl)
    simp only [Zz]
    omega
end
end Wv
/-! dict(d) -/
namespace Wv
open PySem PySem.Spec PyProof.Rows L2 Evl
def rDictD : List V → Hp → VK → Prop := fun xs H Q => ∃ (a : Addr) (kvs : List (Key × V)), xs = [.ref a] ∧ Rd H a (.dK kvs) ∧ ∀ p, H p = none → Q (.ref p) (upd H p (.dK kvs))
theorem u_dict {X : Cx} : CallR X (.type "dict") rDictD := call_dictD
section
variable {g : Gx} {env : List Sl} {te : TE} {P : Dt → List Sl → Prop}
theorem ef_dict (h : Et g env te fun d e => ∃ kvs, d = .dct kvs ∧ P (.dct kvs) e) : Ef g env (tCB rDictD (tCons te tNil)) P := fun c L σ H S Q q =>
  h c L σ H S _ fun x d e H1 ⟨kvs, ed, p⟩ S1 l k r => by
    subst ed
    obtain ⟨a, xs, rfl, ho, h0, tb, hz⟩ := dct_rv r
    exact ⟨a, xs, rfl, h0, fun w hw => q w (.dct kvs) e _ p (S1.add hw) l (k.trans (Ko.new hw)) (k.back hw) ⟨xs, upd_same, tb.1, hz, fun i k1 x k2 d h1 h2 => ((tb.2 i k1 x k2 d h1 h2).avoid fun b z => (Av.add.mp z).imp id fun z => by rw [z]; exact hw).ex (Ex.new hw)⟩⟩
end
end Wv
namespace Lw
open PySem PySem.Spec PyProof.Rows L2 Evl Wv
set_option hygiene false in
local macro_rules
  | `(tactic| ac_rfl) => `(tactic| repeat' (first | (with_reducible show Et _ _ _ _; first | with_reducible refine et_popAt (by with_unfolding_all rfl) ?_ | with_reducible refine et_var (by with_unfolding_all rfl) ?_ | with_reducible refine et_int ?_ | with_reducible refine et_str ?_ | with_reducible refine et_bl ?_ | with_reducible refine et_non ?_ | with_reducible refine et_andV ?_ | with_reducible refine et_orV ?_ | with_reducible refine et_notV ?_ | with_reducible refine et_if ?_ | with_reducible refine et_isStr ?_ | with_reducible refine et_isInt ?_ | with_reducible refine et_isBool ?_ | with_reducible refine et_isDict ?_ | with_reducible refine et_isList ?_ | with_reducible refine et_isTuple ?_ | with_reducible refine et_isLT ?_ | with_reducible refine et_tup ?_ | with_reducible refine et_neg ?_ | with_reducible refine et_ixO (by with_unfolding_all rfl) ?_ | with_reducible refine et_opL (by first | exact rop_ix | exact rop_eq | exact rop_ne | exact rop_in | exact rop_ni | exact rop_add | exact rop_sub | exact rop_mul | exact rop_lt | exact rop_le | exact rop_gt | exact rop_ge | exact rop_mod | exact rop_div | exact rop_isN | exact rop_notN) (by with_unfolding_all rfl) ?_ | with_reducible refine et_opRo (by first | exact rop_ix | exact rop_eq | exact rop_ne | exact rop_in | exact rop_ni | exact rop_add | exact rop_sub | exact rop_mul | exact rop_lt | exact rop_le | exact rop_gt | exact rop_ge | exact rop_mod | exact rop_div | exact rop_isN | exact rop_notN) (by with_unfolding_all rfl) ?_ | with_reducible refine et_op (by first | exact rop_ix | exact rop_eq | exact rop_ne | exact rop_in | exact rop_ni | exact rop_add | exact rop_sub | exact rop_mul | exact rop_lt | exact rop_le | exact rop_gt | exact rop_ge | exact rop_mod | exact rop_div | exact rop_isN | exact rop_notN) ?_ | with_reducible refine et_cbO (by first | exact rcl_len | exact rcl_int | exact rcl_sum | exact rcl_max | exact rcl_min | exact rcl_all | exact rcl_any) (by with_unfolding_all rfl) ?_ | with_reducible refine et_cb (by first | exact rcl_len | exact rcl_int | exact rcl_sum | exact rcl_max | exact rcl_min | exact rcl_all | exact rcl_any) ?_ | with_reducible refine et_chain (by first | exact rop_ix | exact rop_eq | exact rop_ne | exact rop_in | exact rop_ni | exact rop_add | exact rop_sub | exact rop_mul | exact rop_lt | exact rop_le | exact rop_gt | exact rop_ge | exact rop_mod | exact rop_div | exact rop_isN | exact rop_notN) (by first | exact rop_ix | exact rop_eq | exact rop_ne | exact rop_in | exact rop_ni | exact rop_add | exact rop_sub | exact rop_mul | exact rop_lt | exact rop_le | exact rop_gt | exact rop_ge | exact rop_mod | exact rop_div | exact rop_isN | exact rop_notN) ?_ | with_reducible refine et_dget2O (by with_unfolding_all rfl) ?_ | with_reducible refine et_dget2 ?_ | with_reducible refine et_call0 nolk ?_ | with_reducible refine et_call0 samelk ?_ | with_reducible refine et_sl ?_) | (with_reducible show Wd _ _ _ _; first | with_reducible refine wd_seq ?_ | with_reducible refine wd_if ?_ | with_reducible refine wd_ret ?_ | with_reducible refine wd_next ?_ | with_reducible refine wd_raise ?_ | with_reducible refine wd_dput ?_ | with_reducible refine wd_app (by with_unfolding_all rfl) ?_ | with_reducible refine wd_retN ?_) | (with_reducible show Ea _ _ _ _; first | with_reducible refine ea_nil ?_ | with_reducible refine ea_cons ?_) | (with_reducible show Eb _ _ _ _; first | with_reducible refine eb_or ?_ | with_reducible refine eb_and ?_ | with_reducible refine eb_not ?_ | with_reducible refine eb_B ?_ | with_reducible refine eb_test ?_ | with_reducible refine eb_yes ?_) | (with_reducible show Eo _ _ _ _; first | with_reducible refine eo_none ?_ | with_reducible refine eo_some ?_) | with_reducible refine isTyI (by first | with_unfolding_all rfl | assumption | exact pur_ok (by assumption)) ?_ | with_reducible refine iteT ?_ | with_reducible refine iteF ?_ | with_reducible refine bt (by first | with_unfolding_all rfl | assumption) ?_ | with_reducible refine bf (by first | with_unfolding_all rfl | assumption) ?_ | with_reducible refine nt (by first | with_unfolding_all rfl | assumption) ?_ | with_reducible refine nf (by first | with_unfolding_all rfl | assumption) ?_ | with_reducible refine fin_s ?_ | with_reducible refine fni_s ?_ | with_reducible refine fx0 (by first | with_unfolding_all rfl | assumption) ?_ | with_reducible refine fx1 (by first | with_unfolding_all rfl | assumption) ?_ | with_reducible refine fx2 (by first | with_unfolding_all rfl | assumption) ?_ | with_reducible refine fxlen (by first | with_unfolding_all rfl | assumption) ?_ | with_reducible refine fxit (by first | with_unfolding_all rfl | assumption) ?_ | with_reducible refine feq_i ?_ | with_reducible refine feq_s ?_ | with_reducible refine fne_i ?_ | with_reducible refine fne_s ?_ | with_reducible refine r1_i (by first | with_unfolding_all rfl | assumption | exact pur_ok (by assumption)) ?_ | with_reducible refine sclI (by with_unfolding_all rfl) ?_ | with_reducible refine lenI (by with_unfolding_all rfl) ?_ | with_reducible refine eI ?_ | with_reducible refine addI ?_ | with_reducible refine jI ?_ | with_reducible refine lenLst ?_ | with_reducible refine lenTup ?_ | with_reducible refine lenDct ?_ | with_reducible refine lenStr ?_ | with_reducible refine slL ?_ | with_reducible refine slT ?_ | with_reducible refine slS ?_ | with_reducible refine intI ?_ | with_reducible refine intB ?_ | with_reducible refine itsL ?_ | with_reducible refine itsT ?_ | with_reducible refine itdL ?_ | with_reducible refine itdT ?_ | with_reducible refine kdI ?_ | with_reducible refine kdS ?_ | with_reducible refine exOwn (by with_unfolding_all rfl) ?_ | with_reducible refine exOwnD (by with_unfolding_all rfl) ?_ | with_reducible refine exOwnL (by with_unfolding_all rfl) ?_))
theorem dpt_mem {kvs : List (Key × Dt)} {k : Key} {v : Dt} {kv : Key × Dt} (h : kv ∈ dpt kvs k v) : kv ∈ kvs ∨ kv = (k, v) := by
  unfold dpt at h
  split at h
  · obtain ⟨q, hq, e⟩ := List.mem_map.mp h
    by_cases z : q.1 = k
    · rw [if_pos z] at e
      exact .inr (by rw [← e, z])
    · rw [if_neg z] at e
      exact .inl (by rw [← e]; exact hq)
  · rcases List.mem_append.mp h with h | h
    · exact .inl h
    · exact .inr (List.mem_singleton.mp h)
theorem dpt_nd {kvs : List (Key × Dt)} {k : Key} {v : Dt} (h : (kvs.map (·.1)).Nodup) : ((dpt kvs k v).map (·.1)).Nodup := by
  unfold dpt
  split
  · rw [List.map_map, show (kvs.map ((·.1) ∘ fun kv => if kv.1 = k then (kv.1, v) else kv)) = kvs.map (·.1) from List.map_congr_left fun q _ => by
      show (if q.1 = k then (q.1, v) else q).1 = q.1
      split <;> rfl]
    exact h
  · rename_i hn
    rw [List.map_append]
    refine List.nodup_append.mpr ⟨h, by simp, fun a ha b hb e => ?_⟩
    obtain ⟨q, hq, rfl⟩ := List.mem_map.mp ha
    have : b = k := List.mem_singleton.mp hb
    exact hn (List.any_eq_true.mpr ⟨q, hq, decide_eq_true (by rw [e, this])⟩)
/-- a dict that may be handed to Net -/
structure GdD (p : Dt → Prop) (m : Nat) (kvs : List (Key × Dt)) : Prop where
  nd : (kvs.map (·.1)).Nodup
  len : kvs.length ≤ m
  key : ∀ kv ∈ kvs, smB 1 (kDt kv.1) = true ∧ ∀ z, kv.1 = .inr z → z.length ≤ 100
  val : ∀ kv ∈ kvs, p kv.2
theorem GdD.put {p : Dt → Prop} {m : Nat} {kvs : List (Key × Dt)} (G : GdD p m kvs) {k : Key} {v : Dt} (hk : smB 1 (kDt k) = true ∧ ∀ z, k = .inr z → z.length ≤ 100) (hv : p v) : GdD p (m + 1) (dpt kvs k v) := by
  refine ⟨dpt_nd G.nd, Nat.le_trans (dpt_len _ _ _) (Nat.succ_le_succ G.len), fun kv h => ?_, fun kv h => ?_⟩
  · rcases dpt_mem h with h | h
    · exact G.key kv h
    · rw [h]; exact hk
  · rcases dpt_mem h with h | h
    · exact G.val kv h
    · rw [h]; exact hv
theorem GdD.up {p : Dt → Prop} {m n : Nat} {kvs : List (Key × Dt)} (G : GdD p m kvs) (h : m ≤ n) : GdD p n kvs := ⟨G.nd, Nat.le_trans G.len h, G.key, G.val⟩
theorem GdD.disp {p : Dt → Prop} : ∀ (l : List (Str × Dt)) (m : Nat) (a : List (Key × Dt)), GdD p m a → (∀ kv ∈ l, PyData.strOk kv.1 = true ∧ kv.1.length ≤ 100 ∧ p kv.2) → GdD p (m + l.length) (l.foldl (fun a kv => dpt a (.inr kv.1) kv.2) a)
  | [], m, a, G, _ => G
  | kv :: l, m, a, G, h => by
    obtain ⟨h1, h2, h3⟩ := h kv (List.mem_cons_self ..)
    have := GdD.disp l (m + 1) _ (G.put (k := .inr kv.1) (v := kv.2) ⟨h1, fun z e => by cases e; exact h2⟩ h3) fun q hq => h q (List.mem_cons_of_mem _ hq)
    rw [List.foldl_cons, List.length_cons, show m + (l.length + 1) = m + 1 + l.length by omega]
    exact this
/-- what may be handed to Net -/
def Gd (p : Dt → Prop) (m : Nat) (d : Dt) : Prop := (∃ kvs, d = .dct kvs ∧ GdD p m kvs) ∨ (isDc d = false ∧ okT d ∧ smB 3 d = true)
theorem Gd.pre {p : Dt → Prop} {m n : Nat} {d : Dt} (h : Gd p m d) (hm : m ≤ 64) (hp : ∀ v, p v → pur v = true ∧ dep v < n) : PreN n d ∧ dctL d (fun kvs => kvs.length ≤ 64 ∧ ∀ kv ∈ kvs, p kv.2) := by
  rcases h with ⟨kvs, rfl, G⟩ | ⟨h1, h2, h3⟩
  · have := G.len
    exact ⟨⟨⟨by simp only [Zz]; omega, fun kv hkv z hz => by have := (G.key kv hkv).2 z hz; simp only [Zz]; omega, fun kv hkv => hp _ (G.val kv hkv)⟩, G.nd⟩, by omega, G.val⟩
  · cases d with
    | dct kvs => cases h1
    | _ => exact ⟨⟨h1, h2⟩, trivial⟩
theorem chkB_inl {nm kvs : List (Key × Dt)} {k : Dt} : ∀ (ks : List Dt) (f ws : List (Key × Dt)), chkB nm kvs ks f ws = .inl k → k ∈ ks
  | [], _, _, h => by cases h
  | a :: ks, f, ws, h => by
    unfold chkB at h
    split at h
    · exact List.mem_cons_of_mem _ (chkB_inl ks _ _ h)
    · cases h
      exact List.mem_cons_self ..
theorem chkO_inl {bt kvs : List (Key × Dt)} {k : Dt} : ∀ (ks : List Dt) (f : List (Key × Dt)), chkO bt kvs ks f = .inl k → k ∈ ks
  | [], _, h => by cases h
  | a :: ks, f, h => by
    unfold chkO at h
    split at h
    · exact List.mem_cons_of_mem _ (chkO_inl ks _ h)
    · cases h
      exact List.mem_cons_self ..
theorem smB_up : ∀ {n m : Nat} {d : Dt}, smB n d = true → n ≤ m → smB m d = true
  | 0, _, _, h, _ => by cases h
  | n + 1, 0, _, _, hl => by omega
  | n + 1, m + 1, .lst xs, h, hl => by
    have h : xs.all (smB n) = true := h
    show xs.all (smB m) = true
    exact List.all_eq_true.mpr fun x hx => smB_up (List.all_eq_true.mp h x hx) (by omega)
  | n + 1, m + 1, .tup xs, h, hl => by
    have h : xs.all (smB n) = true := h
    show xs.all (smB m) = true
    exact List.all_eq_true.mpr fun x hx => smB_up (List.all_eq_true.mp h x hx) (by omega)
  | n + 1, m + 1, .str z, h, _ => h
  | n + 1, m + 1, .non, h, _ => h
  | n + 1, m + 1, .bl _, h, _ => h
  | n + 1, m + 1, .int _, h, _ => h
  | n + 1, m + 1, .dct ks, h, _ => h
/-- the outcome: an error that is told, or a net -/
theorem ne_ends {bd od : Dt} (hb : Gd BB 60 bd) (ho : Gd BW 60 od) : (∃ tag x, (neF bd od).due = .tup [.str tag, x] ∧ tag ≠ "told" ∧ tag.length ≤ 100 ∧ PyData.strOk tag = true ∧ smB 3 x = true ∧
    ∀ {P : Program} {K : PySem.W.Frag} {mg : Str → Option Value} (T : Txt P K mg) (Pd : List (Key × Dt) → List (Key × Dt) → Prop) (Q : Dt → Prop), Q (.tup [.str tag, x]) → (neF bd od).ends T Pd (xeL (exT T) Q)) ∨
    ((neF bd od).due = .tup [.str "told", .non] ∧ ∃ bt ot, neF bd od = .net bt ot) := by
  have key : ∀ {p : Dt → Prop} {m : Nat} {kvs : List (Key × Dt)} {k : Dt}, GdD p m kvs → k ∈ (kvs.map fun kv => kDt kv.1) → smB 3 k = true := fun {p m kvs k} G hk => by
    obtain ⟨kv, hkv, rfl⟩ := List.mem_map.mp hk
    exact smB_up (G.key kv hkv).1 (by decide)
  rcases hb with ⟨kvs, rfl, G⟩ | ⟨h1, h2, h3⟩
  · cases e : chkB (nmF kvs) kvs (kvs.map fun kv => kDt kv.1) [] [] with
    | inl k =>
      have en : neF (.dct kvs) od = .box k := by unfold neF; dsimp only; rw [e]
      rw [en]
      exact .inl ⟨_, _, rfl, by decide +kernel, by decide +kernel, by decide +kernel, key G (chkB_inl _ _ _ e), fun T Pd Q q => ⟨1, "name", "box", _, rfl, rfl, q⟩⟩
    | inr bt =>
      rcases ho with ⟨ovs, rfl, G2⟩ | ⟨h1, h2, h3⟩
      · cases e2 : chkO bt ovs (ovs.map fun kv => kDt kv.1) [] with
        | inl k =>
          have en : neF (.dct kvs) (.dct ovs) = .output k := by unfold neF; simp only [e, e2]
          rw [en]
          exact .inl ⟨_, _, rfl, by decide +kernel, by decide +kernel, by decide +kernel, key G2 (chkO_inl _ _ e2), fun T Pd Q q => ⟨3, "name", "output", _, rfl, rfl, q⟩⟩
        | inr ot =>
          cases e3 : ringOf (nsOf kvs) (bxOf bt) with
          | some n =>
            have en : neF (.dct kvs) (.dct ovs) = .ring n := by unfold neF; simp only [e, e2, e3]
            rw [en]
            have hn : n ∈ nsOf kvs := List.mem_of_find?_eq_some e3
            exact .inl ⟨_, _, rfl, by decide +kernel, by decide +kernel, by decide +kernel, (word_ok ((chkB_pass G.nd e).wd n hn)).1, fun T Pd Q q => ⟨4, "name", "ring", _, rfl, rfl, q⟩⟩
          | none =>
            have en : neF (.dct kvs) (.dct ovs) = .net bt ot := by unfold neF; simp only [e, e2, e3]
            rw [en]
            exact .inr ⟨rfl, _, _, rfl⟩
      · have en : neF (.dct kvs) od = .outputs od := by
          unfold neF
          simp only [e]
          cases od with
          | dct ovs => cases h1
          | _ => rfl
        rw [en]
        exact .inl ⟨_, _, rfl, by decide +kernel, by decide +kernel, by decide +kernel, h3, fun T Pd Q q => ⟨2, "thing", "outputs", _, rfl, rfl, q⟩⟩
  · have en : neF bd od = .boxes bd := by
      cases bd with
      | dct kvs => cases h1
      | _ => rfl
    rw [en]
    exact .inl ⟨_, _, rfl, by decide +kernel, by decide +kernel, by decide +kernel, h3, fun T Pd Q q => ⟨0, "thing", "boxes", _, rfl, rfl, q⟩⟩
theorem OddOk.gd {o : Dt} (h : OddOk o) {p : Dt → Prop} {m : Nat} : Gd p m o := by
  have hs := h.m
  cases o with
  | dct kvs =>
    rw [h.d kvs rfl]
    exact .inl ⟨[], rfl, List.nodup_nil, Nat.zero_le _, (fun kv h => by cases h), fun kv h => by cases h⟩
  | non => exact .inr ⟨rfl, rfl, hs⟩
  | bl b => exact .inr ⟨rfl, rfl, hs⟩
  | int i => exact .inr ⟨rfl, rfl, hs⟩
  | str z => exact .inr ⟨rfl, rfl, hs⟩
  | lst xs => exact .inr ⟨rfl, rfl, hs⟩
  | tup xs => exact .inr ⟨rfl, rfl, hs⟩
  | _ => cases hs
theorem DB.bb {d : Dt} (h : DB d) : BB d := by
  cases h with
  | inp z => exact ⟨sm_up (sm_tup (n := 0) (sms_cons (sm_str _) (sms_cons (sm_str _) sms_nil))) (by decide), rfl⟩
  | op f ws h1 hw =>
    refine ⟨sm_up (sm_tup (n := 9) (sms_cons (sm_str _) (sms_cons (sm_str _) (sms_cons (sm_lst (n := 8) fun x hx => ?_) sms_nil)))) (by decide), ?_⟩
    · obtain ⟨y, hy, rfl⟩ := List.mem_map.mp hx
      exact sm_wD (hw y hy).2.2
    · show (ws.map wD).all twW = true
      exact List.all_eq_true.mpr fun x hx => by
        obtain ⟨y, hy, rfl⟩ := List.mem_map.mp hx
        rfl
theorem et_box1 {g : Gx} {env : List Sl} {f p : Str} {P : Dt → List Sl → Prop} (hf : f.length ≤ Zz) (hp : p.length ≤ Zz) (h : P (.tup [.str "op", .str f, .lst [.tup [.str p, .lst []]]]) env) : Et g env (tTup (tCons (tC (.str "op")) (tCons (tC (.str f)) (tCons (tLst (tCons (tTup (tCons (tC (.str p)) (tCons (tLst tNil) tNil))) tNil)) tNil)))) P :=
  et_tup (ea_cons (et_str (ea_cons (et_str (ea_cons (Ef.et (ef_lst (ea_cons (et_tup (ea_cons (et_str (ea_cons (Ef.et (ef_lst (ea_nil ⟨Nat.zero_le _, ea_nil ⟨Nat.le_of_ble_eq_true rfl, ea_nil ⟨Nat.le_of_ble_eq_true rfl, ea_nil ⟨Nat.le_of_ble_eq_true rfl, h⟩⟩⟩⟩)))) hp))))))) hf)) (by decide)))
theorem box1_bb {f p : Str} : BB (.tup [.str "op", .str f, .lst [.tup [.str p, .lst []]]]) := ⟨sm_up (sm_tup (n := 4) (sms_cons (sm_str _) (sms_cons (sm_str _) (sms_cons (sm_lst (n := 3) (sms_cons (sm_up (sm_tup (n := 1) (sms_cons (sm_str _) (sms_cons (sm_up (sm_lst (n := 0) sms_nil) (by decide)) sms_nil))) (by decide)) sms_nil)) sms_nil)))) (by decide), rfl⟩
section
variable {P : Program} {w : World} {K : PySem.W.Frag} {mg : Str → Option Value} {base : Heap}
theorem ok_law (T : Txt P K mg) {c Pt : Addr} (hcode : T.d_law.code = .ref c) (hTB : ∀ p ∈ [(c, Pt)], LamX.TabB base mg p.1 p.2) : FnOk P w K mg base CX0 20 T.a_law T.d_law ["_law_script"] (spLawT K [(c, Pt)]) := by
  refine T.F_law.okD sc_law (fun vs H Q E h => by obtain ⟨a, ns, rfl, _⟩ := h; rfl) (fun cdv hcd A outer s H vs Q E hr h => ⟨_, PSs.nox (pss_cons (ps_set (i := 1) sc_law.nd rfl (Or.inl rfl) (pe_call (ok_fresh T) (hr.mono (by omega)) rfl T.g_fresh T.F_fresh.kp T.b_fresh .nil pass0 (pa_cons (pv 0) pa_nil))) (pss_cons (ps_for PassesOwn.never rfl (pi_range1 rfl T.n_range (pa_cons pe_int pa_nil)) (pg_name (i := 2) sc_law.nd rfl (Or.inl rfl)) (pss_cons (ps_set (i := 3) sc_law.nd rfl (Or.inl rfl) (pe_call (w_drawn T) (hr.mono (by omega)) rfl T.g_drawn T.F_drawn.kp T.b_drawn .nil pass0 (pa_cons (pv 1) (pa_cons pe_int (pa_cons pe_int (pa_cons pe_bl pa_nil)))))) (pss_cons (ps_asg (pe_tup (pa_cons (pe_callTy u_dict rfl T.n_dict (by decide +kernel) (pa_cons (pe_ix (uIxA K (hu64 hr)) (pv 3) pe_int (fun _ _ => rfl)) pa_nil)) (pa_cons (pe_callTy u_dict rfl T.n_dict (by decide +kernel) (pa_cons (pe_ix (uIxA K (hu64 hr)) (pv 3) pe_int (fun _ _ => rfl)) pa_nil)) pa_nil))) (pg_tupK (K := K) (n := 2) rfl (pgs_cons (pg_name (i := 13) sc_law.nd rfl (Or.inr rfl)) (pgs_cons (pg_name (i := 14) sc_law.nd rfl (Or.inr rfl)) pgs_nil)))) (pss_cons (ps_set (i := 4) sc_law.nd rfl (Or.inl rfl) (pe_call (w_one T) (hr.mono (by omega)) rfl T.g_one T.F_one.kp T.b_one .nil pass0 (pa_cons (pv 1) (pa_cons (pe_call0 (w_odd_things T) (hr.mono (by omega)) rfl T.g_odd_things T.F_odd_things.kp T.b_odd_things .nil pass0) pa_nil)))) (pss_cons (ps_par (i := 5) (j := 6) rfl sc_law.nd rfl rfl (by decide) rfl rfl (pa_cons (pe_call (w_take T) (hr.mono (by omega)) rfl T.g_take T.F_take.kp T.b_take .nil pass0 (pa_cons (pv 1) (pa_cons pe_int pa_nil))) (pa_cons (pe_call (w_one T) (hr.mono (by omega)) rfl T.g_one T.F_one.kp T.b_one .nil pass0 (pa_cons (pv 1) (pa_cons (pe_callTy (u_listA K rfl) rfl T.n_list (by decide +kernel) (pa_cons (pv 13) pa_nil)) pa_nil))) pa_nil)) rfl rfl) (pss_cons (ps_if (pt_cmpR op_lt (pv 5) pe_int (nomark _)) (pss_one (ps_dput (hu_of hr) (pv 13) (pv 6) (pe_call (w_bent_box T) (hr.mono (by omega)) rfl T.g_bent_box T.F_bent_box.kp T.b_bent_box .nil pass0 (pa_cons (pv 1) (pa_cons (pe_ix (uIxA K (hu64 hr)) (pv 13) (pv 6) (fun _ _ => rfl)) (pa_cons (pv 4) pa_nil)))) rfl)) (pss_one (ps_if (pt_cmpR (uEq K (hu64 hr)) (pv 5) pe_int (nomark _)) (pss_cons (ps_set (i := 7) sc_law.nd rfl (Or.inl rfl) (pe_call (w_one T) (hr.mono (by omega)) rfl T.g_one T.F_one.kp T.b_one .nil pass0 (pa_cons (pv 1) (pa_cons (pe_callTy (u_listA K rfl) rfl T.n_list (by decide +kernel) (pa_cons (pv 14) pa_nil)) pa_nil)))) (pss_one (ps_dput (hu_of hr) (pv 14) (pv 7) (pe_call (w_bent_wire T) (hr.mono (by omega)) rfl T.g_bent_wire T.F_bent_wire.kp T.b_bent_wire .nil pass0 (pa_cons (pv 1) (pa_cons (pe_ix (uIxA K (hu64 hr)) (pv 14) (pv 7) (fun _ _ => rfl)) (pa_cons (pv 4) pa_nil)))) rfl))) (pss_one (ps_if (pt_cmpR (uEq K (hu64 hr)) (pv 5) pe_int (nomark _)) (pss_one (ps_for PassesOwn.never rfl (pi_anyK (K := K) (pe_call (w_one T) (hr.mono (by omega)) rfl T.g_one T.F_one.kp T.b_one .nil pass0 (pa_cons (pv 1) (pa_cons (pe_lst (pa_cons (pe_lst (pa_cons pe_str pa_nil)) (pa_cons (pe_lst (pa_cons pe_str (pa_cons pe_str (pa_cons pe_str (pa_cons pe_str (pa_cons pe_str pa_nil)))))) (pa_cons (pe_lst (pa_cons pe_int pa_nil)) (pa_cons (pe_lst (pa_cons pe_str pa_nil)) (pa_cons (pe_lst (pa_cons pe_str pa_nil)) pa_nil)))))) pa_nil)))) (pg_name (i := 8) sc_law.nd rfl (Or.inl rfl)) (pss_one (ps_dput (hu_of hr) (pv 14) (pv 8) (pe_tup (pa_cons (pv 6) (pa_cons (pe_lst pa_nil) pa_nil))) rfl)))) (pss_cons (ps_set (i := 9) sc_law.nd rfl (Or.inl rfl) (pe_lst (pa_cons (pv 4) (pa_cons (pv 13) (pa_cons (pe_disp (pps_cons pe_str (pe_tup (pa_cons pe_str (pa_cons pe_str pa_nil))) pps_nil) rfl rfl (by decide) (by decide)) (pa_cons (pe_disp (pps_cons pe_str (pe_tup (pa_cons pe_str (pa_cons pe_str (pa_cons (pe_lst (pa_cons (pe_tup (pa_cons pe_str (pa_cons (pe_lst pa_nil) pa_nil))) pa_nil)) pa_nil)))) (pps_cons pe_str pe_int pps_nil)) rfl rfl (by decide) (by decide)) pa_nil)))))) (pss_cons (ps_set (i := 10) sc_law.nd rfl (Or.inl rfl) (pe_disp (pps_cons pe_str (pe_tup (pa_cons pe_str (pa_cons pe_str (pa_cons (pe_lst (pa_cons (pe_tup (pa_cons pe_str (pa_cons (pe_lst pa_nil) pa_nil))) pa_nil)) pa_nil)))) (pps_cons pe_str (pe_tup (pa_cons pe_str (pa_cons pe_str (pa_cons (pe_lst (pa_cons (pe_tup (pa_cons pe_str (pa_cons (pe_lst pa_nil) pa_nil))) pa_nil)) pa_nil)))) (pps_cons pe_str (pe_tup (pa_cons pe_str (pa_cons pe_str (pa_cons (pe_lst (pa_cons (pe_tup (pa_cons pe_str (pa_cons (pe_lst pa_nil) pa_nil))) pa_nil)) pa_nil)))) pps_nil))) rfl rfl (by decide) (by decide))) (pss_cons (ps_set (i := 13) sc_law.nd rfl (Or.inr rfl) (pe_call (w_one T) (hr.mono (by omega)) rfl T.g_one T.F_one.kp T.b_one .nil pass0 (pa_cons (pv 1) (pa_cons (pe_op (uAdd K) (pv 9) (pe_lst (pa_cons (pv 10) (pa_cons (pe_disp (pps_cons pe_str (pe_tup (pa_cons pe_str (pa_cons pe_str (pa_cons (pe_lst (pa_cons (pe_tup (pa_cons pe_str (pa_cons (pe_lst pa_nil) pa_nil))) pa_nil)) pa_nil)))) pps_nil) rfl rfl (by decide) (by decide)) pa_nil)))) pa_nil)))) (pss_one (ps_set (i := 14) sc_law.nd rfl (Or.inr rfl) (pe_call (w_one T) (hr.mono (by omega)) rfl T.g_one T.F_one.kp T.b_one .nil pass0 (pa_cons (pv 1) (pa_cons (pe_lst (pa_cons (pv 4) (pa_cons (pv 14) pa_nil))) pa_nil))))))))))))) (pss_cons (ps_par (i := 11) (j := 12) rfl sc_law.nd rfl rfl (by decide) rfl rfl (pa_cons (LamX.pe_lamF (T := [(Pt, lamQ)]) 17 rfl T.g_tried T.F_tried T.b_tried sc_tried rfl (.inl rfl) (fun cdv => tried_in T rfl rfl rfl (hr.mono (j := 5) (by omega))) (hTB _ List.mem_cons_self) (hcd.symm.trans hcode) List.mem_cons_self (fun p hp _ => by cases List.mem_singleton.mp hp; rfl) hr (LamX.lamS_by (sc := defScope s_law) (by decide +kernel)) rfl (fun _ _ _ _ _ => by rfl) (fun _ _ _ _ E _ _ hr => (pe_make T.k_Net (ok_Net_initF T) (hr.mono (by omega)) rfl T.g_Net T.b_Net_init .nil (passes_call (takes_of rfl rfl rfl rfl) fun _ _ _ _ h => h) (pa_cons (pv 13) (pa_cons (pv 14) pa_nil))))) (pa_cons (pe_call (w_made_due T) (hr.mono (by omega)) rfl T.g_made_due T.F_made_due.kp T.b_made_due .nil pass0 (pa_cons (pv 13) (pa_cons (pv 14) pa_nil))) pa_nil)) rfl rfl) (pss_one (ps_if (PW.pt (pw_or (pt_cmpR (uNe K (hu64 hr)) (pe_ix (uIxA K (hu64 hr)) (pv 11) pe_int (fun _ _ => rfl)) (pe_ix (uIxA K (hu64 hr)) (pv 12) pe_int (fun _ _ => rfl)) (nomark _)) (pw_or1 (PW.pt (pw_and (pt_cmpR (uNe K (hu64 hr)) (pe_ix (uIxA K (hu64 hr)) (pv 12) pe_int (fun _ _ => rfl)) pe_str (nomark _)) (pw_and1 (pt_not (pt_val (pe_call (w_same T 5) (hr.mono (by omega)) rfl T.g_same T.F_same.kp T.b_same .nil pass0 (pa_cons (pv 11) (pa_cons (pv 12) pa_nil))))))))))) (pss_one (ps_ret pe_bl)) pss_nil))))))))) (pss_one (ps_ret pe_bl)))), law_begin h 13 rfl ?_⟩)
  have hL : ∀ p ∈ exT T, p.2.2.length ≤ Zz := fun p hp => of_decide_eq_true (List.all_eq_true.mp (show ((exT T).all fun p => decide (p.2.2.length ≤ Zz)) = true by rfl) p hp)
  refine wd_seq (wd_for (ei_rng1 ?_))
  ac_rfl
  refine ⟨9, rfl, by decide, by decide, fun i e => ∃ s2 s3 s4 s5 s6 s7 s8 s9 s10 s11 s12 s13 s14 : Sl, e = [.no, .v .st, s2, s3, s4, s5, s6, s7, s8, s9, s10, s11, s12, s13, s14], ⟨.no, .no, .no, .no, .no, .no, .no, .no, .no, .no, .no, .no, .no, rfl⟩, ?_, ?_⟩
  · rintro i d e hi ⟨s2, s3, s4, s5, s6, s7, s8, s9, s10, s11, s12, s13, s14, rfl⟩
    refine tg_name (wd_seq (wd_asg ?_))
    ac_rfl
    refine ⟨3, 3, false, rfl, by decide, fun bt ot row D => ?_⟩
    have G0 := D.good (by decide)
    have rl := D.len
    have hbl : bt.length = row.length := by have := congrArg List.length G0.ks; simpa using this
    have drw : ∀ kv ∈ bt, ∃ n, kv.1 = .inr n ∧ n ∈ row := fun kv hkv => by
      have h := List.mem_map_of_mem (f := (·.1)) hkv
      rw [G0.ks] at h
      obtain ⟨n, hn, e⟩ := List.mem_map.mp h
      exact ⟨n, e.symm, hn⟩
    have kw : ∀ {z : Str}, wordD (.str z) = true → smB 1 (.str z) = true ∧ ∀ y, (Sum.inr z : Key) = .inr y → y.length ≤ 100 := fun {z} h => ⟨(word_ok h).1, fun y e => by cases e; have := (word_ok h).2.1; omega⟩
    have hwi : ∀ {x : Wi}, x.1 ∈ row → (∀ t ∈ x.2, cg 7 t = true) → x.2.length ≤ 8 → x.1.length ≤ 10 ∧ x.2.length ≤ 20 ∧ ∀ t ∈ x.2, cg 7 t = true := fun {x} h1 h2 h3 => ⟨by have := (word_ok (G0.wd _ h1)).2.1; omega, by omega, h2⟩
    have hDB : ∀ kv ∈ bt, DB kv.2 := fun kv hkv => by
      obtain ⟨j, hj⟩ := List.mem_iff_getElem?.mp hkv
      have hd := D.bx j kv hj
      obtain ⟨k, v⟩ := kv
      cases hd with
      | inp z h => exact .inp z
      | op f ws ha hw2 =>
        refine .op f ws ⟨by have := (arF_ok ha).2.2; omega, by have := (arF_ok ha).2.2; omega⟩ fun x hx => ?_
        obtain ⟨a2, a3, j', hj', _⟩ := hw2 x hx
        exact hwi (List.mem_of_getElem? hj') a2 a3
    have hbBB : ∀ kv ∈ bt, BB kv.2 := fun kv hkv => (hDB kv hkv).bb
    have hoBW : ∀ kv ∈ ot, BW kv.2 := fun kv hkv => by
      obtain ⟨x, e, h1, h2, h3⟩ := D.ow kv hkv
      rw [e]
      exact ⟨sm_up (sm_wD h2) (by decide), rfl⟩
    have Gb : GdD BB 7 bt := ⟨by rw [G0.ks]; exact inr_nd G0.nd, by omega, fun kv hkv => by
      obtain ⟨n, e, hn⟩ := drw kv hkv
      rw [e]
      exact kw (G0.wd n hn), hbBB⟩
    have okw : ∀ kv ∈ ot, ∃ n, kv.1 = .inr n ∧ n ∈ osOf ot := fun kv hkv => by
      have h := List.mem_map_of_mem (f := (·.1)) hkv
      rw [G0.go.ks] at h
      obtain ⟨n, hn, e⟩ := List.mem_map.mp h
      exact ⟨n, e.symm, hn⟩
    have Go : GdD BW 4 ot := ⟨by rw [G0.go.ks]; exact inr_nd G0.go.nd, by have := congrArg List.length G0.go.ks; have := G0.go.sz; simp only [List.length_map] at *; omega, fun kv hkv => by
      obtain ⟨n, e, hn⟩ := okw kv hkv
      rw [e]
      exact kw (G0.go.wd n hn), hoBW⟩
    obtain ⟨net, enet⟩ : ∃ net, net = Dt.tup [.dct bt, .dct ot] := ⟨_, rfl⟩
    refine wd_seq (wd_tupOO (ef_dict (et_op rop_ix (et_var rfl (et_int (fx0 rfl ⟨bt, rfl, ef_dict (et_op rop_ix (et_var rfl (et_int (fx1 rfl ⟨ot, rfl, ?_⟩))))⟩))))))
    rw [← enet]
    refine wd_seq (wd_asg (et_call0 nolk (ea_cons (et_var rfl (ea_cons (et_call0 nolk (ea_nil ⟨rfl, ea_nil (rone (p := OddOk) ⟨Nat.zero_lt_succ _, Nat.le_of_ble_eq_true rfl⟩ (fun o ho => ?_) oddL_ok)⟩)))))))
    refine wd_seq (wd_par (et_call0 nolk (ea_cons (et_var rfl (ea_cons (et_int (ea_nil ⟨6, rfl, by decide, fun way w1 w2 => et_call0 nolk (ea_cons (et_var rfl (ea_cons (Ef.et (ef_cbO rcf_list rfl ⟨fun kv hkv z hz => ?_, ?_⟩)))))⟩)))))))
    · obtain ⟨n, e, hn⟩ := drw kv hkv
      rw [e] at hz
      cases hz
      have := (word_ok (G0.wd _ hn)).2.1
      simp only [Zz]
      omega
    rw [ks_map G0.ks]
    refine ea_nil (rone (p := fun d => ∃ n ∈ row, d = .str n) ⟨by rw [List.length_map]; omega, by rw [List.length_map]; omega⟩ ?_ fun d hd => ?_)
    rotate_left
    · obtain ⟨n, hn, rfl⟩ := List.mem_map.mp hd
      exact ⟨n, hn, rfl⟩
    rintro _ ⟨n, hn, rfl⟩
    refine wd_cut (Mid := fun e => ∃ (bd od : Dt) (s7 s8 s9 s10 X Y : Sl), e = [.no, .v .st, .v d, .v net, .v o, .v (.int way), .v (.str n), s7, s8, s9, s10, s11, s12, X, Y] ∧ (X = .own bd ∨ X = .v bd) ∧ (Y = .own od ∨ Y = .v od) ∧ Gd BB 60 bd ∧ Gd BW 60 od) ?_ ?_
    · have sz : ∀ {p : Dt → Prop} {m : Nat} {kvs : List (Key × Dt)}, GdD p m kvs → m ≤ 100 → kvs.length < Zz := fun {p m kvs} G h => by have := G.len; simp only [Zz]; omega
      have kn : smB 1 (kDt (.inr n)) = true ∧ ∀ z, (Sum.inr n : Key) = .inr z → z.length ≤ 100 := kw (G0.wd n hn)
      refine wd_if (eb_test (et_op rop_lt (et_var rfl (et_int (jI (Wv.b2 (fun _ => ?_) fun _ => ?_))))))
      · obtain ⟨b, hb, hgb⟩ := G0.toGB.at hn
        refine wd_dput ?_
        refine et_call0 nolk (ea_cons (et_var rfl (ea_cons (et_ixO rfl (et_var rfl ⟨_, rfl, b, hb, ea_cons (et_var rfl (ea_nil ⟨b, o, rfl, hDB _ (dlk_mem hb), ho, fun d' hd => ?_⟩))⟩)))))
        refine ⟨_, rfl, et_var rfl ⟨bt, rfl, sz Gb (by decide), ?_⟩⟩
        exact ⟨_, _, _, _, _, _, _, _, rfl, .inl rfl, .inl rfl, .inl ⟨_, rfl, (Gb.put kn hd).up (by decide)⟩, .inl ⟨_, rfl, Go.up (by decide)⟩⟩
      refine wd_if (eb_test (et_op rop_eq (et_var rfl (et_int (feq_i (Wv.b2 (fun _ => ?_) fun _ => ?_))))))
      · refine wd_seq (wd_asg (et_call0 nolk (ea_cons (et_var rfl (ea_cons (Ef.et (ef_cbO rcf_list rfl ⟨fun kv hkv z hz => ?_, ?_⟩)))))))
        · obtain ⟨q, e, hq⟩ := okw kv hkv
          rw [e] at hz
          cases hz
          have := (word_ok (G0.go.wd _ hq)).2.1
          simp only [Zz]
          omega
        refine ea_nil (rone (p := fun d => ∃ kv ∈ ot, d = kDt kv.1) ⟨by rw [List.length_map]; have := D.os; rcases this with h | h <;> (have := congrArg List.length h; simp only [List.length_map, List.length_cons, List.length_nil] at this; omega), by rw [List.length_map]; have := Go.len; omega⟩ ?_ fun d hd => ?_)
        rotate_left
        · obtain ⟨kv, hkv, rfl⟩ := List.mem_map.mp hd
          exact ⟨kv, hkv, rfl⟩
        rintro _ ⟨kv, hkv, rfl⟩
        obtain ⟨q, e, hq⟩ := okw kv hkv
        obtain ⟨x, ex, x1, x2, x3⟩ := D.ow kv hkv
        have hx : dlk ot (.inr q) = some (wD x) := dlk_nd Go.nd (by rw [← e, ← ex]; exact hkv)
        rw [e]
        refine wd_dput ?_
        refine et_call0 nolk (ea_cons (et_var rfl (ea_cons (et_ixO rfl (et_var rfl ⟨_, rfl, _, hx, ea_cons (et_var rfl (ea_nil ⟨x, o, rfl, hwi x1 x2 x3, ho, fun d' hd => ?_⟩))⟩)))))
        refine ⟨_, rfl, et_var rfl ⟨ot, rfl, sz Go (by decide), ?_⟩⟩
        exact ⟨_, _, _, _, _, _, _, _, rfl, .inl rfl, .inl rfl, .inl ⟨_, rfl, Gb.up (by decide)⟩, .inl ⟨_, rfl, (Go.put (k := .inr q) (kw (G0.go.wd q hq)) hd).up (by decide)⟩⟩
      refine wd_if (eb_test (et_op rop_eq (et_var rfl (et_int (feq_i (Wv.b2 (fun _ => ?_) fun _ => ?_))))))
      · refine wd_for (ei_seq (et_call0 nolk (ea_cons (et_var rfl (ea_cons (Ef.et (ef_lst ?_)))))))
        refine ea_cons (Ef.et (ef_lst (ea_cons (et_str (ea_nil ⟨Nat.le_of_ble_eq_true rfl, ?_⟩)))))
        refine ea_cons (Ef.et (ef_lst (ea_cons (et_str (ea_cons (et_str (ea_cons (et_str (ea_cons (et_str (ea_cons (et_str (ea_nil ⟨Nat.le_of_ble_eq_true rfl, ?_⟩)))))))))))))
        refine ea_cons (Ef.et (ef_lst (ea_cons (et_int (ea_nil ⟨Nat.le_of_ble_eq_true rfl, ?_⟩)))))
        refine ea_cons (Ef.et (ef_lst (ea_cons (et_str (ea_nil ⟨Nat.le_of_ble_eq_true rfl, ?_⟩)))))
        refine ea_cons (Ef.et (ef_lst (ea_cons (et_str (ea_nil ⟨Nat.le_of_ble_eq_true rfl, ?_⟩)))))
        refine ea_nil ⟨Nat.le_of_ble_eq_true rfl, ea_nil (rone (p := fun d => ∃ ks : List Key, d = .lst (ks.map kDt) ∧ ks.length ≤ 5 ∧ ∀ k ∈ ks, smB 1 (kDt k) = true ∧ ∀ z, k = .inr z → z.length ≤ 100) ⟨Nat.zero_lt_succ _, Nat.le_of_ble_eq_true rfl⟩ ?_ ?_)⟩
        · rintro _ ⟨ks, rfl, hkl, hks⟩
          refine ⟨fun j e => ∃ (ovs : List (Key × Dt)) (s8 : Sl), e = [.no, .v .st, .v d, .v net, .v o, .v (.int way), .v (.str n), s7, s8, s9, s10, s11, s12, .own (.dct bt), .own (.dct ovs)] ∧ GdD BW (4 + j) ovs, ⟨ot, s8, rfl, Go⟩, ?_, ?_⟩
          · rintro j dk e hj ⟨ovs, s8, rfl, G⟩
            rw [List.getElem?_map] at hj
            cases hk : ks[j]? with
            | none => rw [hk] at hj; cases hj
            | some k =>
              rw [hk] at hj
              cases hj
              have hjl : j < ks.length := (List.getElem?_eq_some_iff.mp hk).1
              have G2 := G.put (hks k (List.mem_of_getElem? hk)) (v := .tup [.str n, .lst []]) ⟨sm_up (sm_tup (n := 1) (sms_cons (sm_str _) (sms_cons (sm_up (sm_lst (n := 0) sms_nil) (by decide)) sms_nil))) (by decide), rfl⟩
              refine tg_name (wd_dput (et_tup (ea_cons (et_var rfl (ea_cons (Ef.et (ef_lst (ea_nil ⟨Nat.zero_le _, ea_nil ⟨Nat.le_of_ble_eq_true rfl, _, rfl, et_var rfl ?_⟩⟩))))))))
              have fin : ∃ kvs, ([.no, .v .st, .v d, .v net, .v o, .v (.int way), .v (.str n), s7, .v (kDt k), s9, s10, s11, s12, .own (.dct bt), .own (.dct ovs)] : List Sl)[14]? = some (Sl.own (.dct kvs)) ∧ kvs.length < Zz ∧ ∃ (ovs' : List (Key × Dt)) (s8 : Sl), ([.no, .v .st, .v d, .v net, .v o, .v (.int way), .v (.str n), s7, .v (kDt k), s9, s10, s11, s12, .own (.dct bt), .own (.dct ovs)] : List Sl).set 14 (.own (.dct (dpt kvs k (.tup [.str n, .lst []])))) = [.no, .v .st, .v d, .v net, .v o, .v (.int way), .v (.str n), s7, s8, s9, s10, s11, s12, .own (.dct bt), .own (.dct ovs')] ∧ GdD BW (4 + (j + 1)) ovs' :=
                ⟨ovs, rfl, sz G (by omega), _, _, rfl, G2⟩
              cases k with
              | inl i => exact fin
              | inr z => exact fin
          · rintro e ⟨ovs, s8, rfl, G⟩
            rw [List.length_map] at G
            exact ⟨_, _, _, _, _, _, _, _, rfl, .inl rfl, .inl rfl, .inl ⟨_, rfl, Gb.up (by decide)⟩, .inl ⟨_, rfl, G.up (by omega)⟩⟩
        · have k1 : ∀ z : Str, PyData.strOk z = true → z.length ≤ 100 → ∀ k ∈ ([.inr z] : List Key), smB 1 (kDt k) = true ∧ ∀ y, k = .inr y → y.length ≤ 100 := fun z h1 h2 k hk => by
            rw [List.mem_singleton.mp hk]
            exact ⟨h1, fun y e => by cases e; exact h2⟩
          refine forall_cons ⟨[.inr "A"], rfl, by decide, k1 _ (by decide +kernel) (by decide)⟩ ?_
          refine forall_cons ⟨[.inr "oo", .inr "ro", .inr "a", .inr "b", .inr "c"], rfl, by decide, forall_cons (k1 _ (by decide +kernel) (by decide) _ (List.mem_singleton.mpr rfl)) (forall_cons (k1 _ (by decide +kernel) (by decide) _ (List.mem_singleton.mpr rfl)) (forall_cons (k1 _ (by decide +kernel) (by decide) _ (List.mem_singleton.mpr rfl)) (forall_cons (k1 _ (by decide +kernel) (by decide) _ (List.mem_singleton.mpr rfl)) (k1 _ (by decide +kernel) (by decide)))))⟩ ?_
          refine forall_cons ⟨[.inl 5], rfl, by decide, fun k hk => by rw [List.mem_singleton.mp hk]; exact ⟨rfl, fun y e => by cases e⟩⟩ ?_
          exact forall_cons ⟨[.inr "abcdefghi"], rfl, by decide, k1 _ (by decide +kernel) (by decide)⟩ (forall_cons ⟨[.inr "x"], rfl, by decide, k1 _ (by decide +kernel) (by decide)⟩ forall_nil)
      · refine wd_seq (wd_asg (Ef.et (ef_lst (ea_cons (et_var rfl (ea_cons (et_own rfl ?_)))))))
        refine ea_cons (Ef.et (ef_dispE (ep_cons (et_tup (ea_cons (et_str (ea_cons (et_str (ea_nil ⟨Nat.le_of_ble_eq_true rfl, ep_nil ⟨Nat.le_of_ble_eq_true rfl, ?_⟩⟩)))))))))
        refine ea_cons (Ef.et (ef_dispE (ep_cons (et_box1 (by decide) (by decide) (ep_cons (et_int (ep_nil ⟨Nat.le_of_ble_eq_true rfl, ea_nil ⟨Nat.le_of_ble_eq_true rfl, ?_⟩⟩)))))))
        refine wd_seq (wd_asg (Ef.et (ef_dispE (ep_cons (et_box1 (by decide) (by decide) (ep_cons (et_box1 (by decide) (by decide) (ep_cons (et_box1 (by decide) (by decide) (ep_nil ⟨Nat.le_of_ble_eq_true rfl, ?_⟩))))))))))
        have gx : ∀ (l : List (Str × Dt)), l.length ≤ 15 → (∀ kv ∈ l, PyData.strOk kv.1 = true ∧ kv.1.length ≤ 100 ∧ BB kv.2) → Gd BB 60 (.dct (dispE l)) := fun l h1 h3 => .inl ⟨_, rfl, (GdD.disp l 0 [] ⟨List.nodup_nil, Nat.le_refl _, (fun kv h => by cases h), fun kv h => by cases h⟩ h3).up (by omega)⟩
        refine wd_seq (wd_asg (et_call0 nolk (ea_cons (et_var rfl (ea_cons (et_op rop_add (et_var rfl (Ef.et (ef_lst (ea_cons (et_var rfl (ea_cons (Ef.et (ef_dispE (ep_cons (et_box1 (by decide) (by decide) (ep_nil ⟨Nat.le_of_ble_eq_true rfl, ea_nil ⟨Nat.le_of_ble_eq_true rfl, addL (Nat.le_of_ble_eq_true rfl) (ea_nil (rone (p := Gd BB 60) ⟨Nat.zero_lt_succ _, Nat.le_of_ble_eq_true rfl⟩ (fun bd gb => ?_) ?_))⟩⟩)))))))))))))))))
        · refine wd_asg (et_call0 nolk (ea_cons (et_var rfl (ea_cons (Ef.et (ef_lst (ea_cons (et_var rfl (ea_cons (et_own rfl (ea_nil ⟨Nat.le_of_ble_eq_true rfl, ea_nil (rone (p := Gd BW 60) ⟨Nat.zero_lt_succ _, Nat.le_of_ble_eq_true rfl⟩ (fun od go => ?_) (forall_cons ho.gd (forall_cons (.inl ⟨_, rfl, Go.up (by decide)⟩) forall_nil)))⟩)))))))))))
          exact ⟨_, _, _, _, _, _, _, _, rfl, .inr rfl, .inr rfl, gb, go⟩
        · refine forall_cons ho.gd (forall_cons (.inl ⟨_, rfl, Gb.up (by decide)⟩) ?_)
          refine forall_cons (gx _ (by decide) (forall_cons ⟨by decide +kernel, by decide, sm_up (sm_tup (n := 0) (sms_cons (sm_str _) (sms_cons (sm_str _) sms_nil))) (by decide), rfl⟩ forall_nil)) ?_
          refine forall_cons (gx _ (by decide) (forall_cons ⟨by decide +kernel, by decide, box1_bb⟩ (forall_cons ⟨by decide +kernel, by decide, sm_int _, rfl⟩ forall_nil))) ?_
          refine forall_cons (gx _ (by decide) (forall_cons ⟨by decide +kernel, by decide, box1_bb⟩ (forall_cons ⟨by decide +kernel, by decide, box1_bb⟩ (forall_cons ⟨by decide +kernel, by decide, box1_bb⟩ forall_nil)))) ?_
          exact forall_cons (gx _ (by decide) (forall_cons ⟨by decide +kernel, by decide, box1_bb⟩ forall_nil)) forall_nil
    · rintro e ⟨bd, od, s7, s8, s9, s10, X, Y, rfl, hX, hY, gb, go⟩
      have pb := gb.pre (n := 12) (by decide) fun v h => ⟨h.1.1, Nat.lt_succ_of_le h.1.2⟩
      have po := go.pre (n := 10) (by decide) fun v h => ⟨h.1.1, Nat.lt_succ_of_le h.1.2⟩
      have lb : dctL bd fun kvs => kvs.length ≤ 64 ∧ ∀ kv ∈ kvs, twB kv.2 = true := by
        have h := pb.2
        cases bd with
        | dct kvs => exact ⟨h.1, fun kv hkv => (h.2 kv hkv).2⟩
        | _ => trivial
      have lo : dctL od fun kvs => kvs.length ≤ 64 := by
        have h := po.2
        cases od with
        | dct kvs => exact h.1
        | _ => trivial
      refine (?_ : ∀ t E, Wd _ [.no, .v .st, .v d, .v net, .v o, .v (.int way), .v (.str n), s7, s8, s9, s10, s11, s12, .v bd, .v od] t E → Wd _ [.no, .v .st, .v d, .v net, .v o, .v (.int way), .v (.str n), s7, s8, s9, s10, s11, s12, X, Y] t E) _ _ ?_
      · rintro t E h
        rcases hX with rfl | rfl
        · refine wd_frz (i := 13) rfl ?_
          rcases hY with rfl | rfl
          · exact wd_frz (i := 14) rfl h
          · exact h
        · rcases hY with rfl | rfl
          · exact wd_frz (i := 14) rfl h
          · exact h
      rcases ne_ends gb go with ⟨tag, x, e1, e2, e3, e4, e5, e6⟩ | ⟨e1, bt', ot', e2⟩
      · refine wd_seq (wd_par (et_lam (q := lamQ) rfl hL fun E => ?_))
        refine et_make samelk (ea_cons (et_var rfl (ea_cons (et_var rfl (ea_nil ⟨bd, od, rfl, pb.1, po.1, ?_⟩)))))
        dsimp only
        refine e6 T _ _ ?_
        refine et_call0 samelk (ea_cons (et_var rfl (ea_cons (et_var rfl (ea_nil ⟨bd, od, rfl, pb.1, po.1, lb, lo, ?_⟩)))))
        rw [e1]
        refine wd_if (eb_or (eb_test (et_op rop_ne (et_op rop_ix (et_var rfl (et_int (fx0 rfl (et_op rop_ix (et_var rfl (et_int (fx0 rfl (fne_s (Wv.v2 (fun h => absurd rfl (of_decide_eq_false h)) fun _ => ?_)))))))))))))
        refine eb_and (eb_test (et_op rop_ne (et_op rop_ix (et_var rfl (et_int (fx0 rfl (et_str (fne_s (Wv.v2 (fun _ => ?_) fun h => absurd (of_decide_eq_true h) e2)))))))))
        refine eb_not (eb_B (et_call0 nolk (ea_cons (et_var rfl (ea_cons (et_var rfl (ea_nil ⟨_, rfl, ?_, Wv.nt rfl (wd_next ?_)⟩)))))))
        · show (PyData.strOk tag && (smB 4 x && true)) = true
          rw [e4, smB_up e5 (by decide)]
          rfl
        · exact ⟨_, _, _, _, _, _, _, _, _, _, _, _, _, rfl⟩
      · refine wd_seq (wd_par (et_lam (q := lamQ) rfl hL fun E => ?_))
        refine et_make samelk (ea_cons (et_var rfl (ea_cons (et_var rfl (ea_nil ⟨bd, od, rfl, pb.1, po.1, ?_⟩)))))
        rw [e2]
        refine fun found _ => ?_
        refine et_call0 samelk (ea_cons (et_var rfl (ea_cons (et_var rfl (ea_nil ⟨bd, od, rfl, pb.1, po.1, lb, lo, ?_⟩)))))
        rw [e1]
        refine wd_if (eb_or (eb_test (et_op rop_ne (et_op rop_ix (et_var rfl (et_int (fx0 rfl (et_op rop_ix (et_var rfl (et_int (fx0 rfl (fne_s (Wv.v2 (fun h => absurd rfl (of_decide_eq_false h)) fun _ => ?_)))))))))))))
        refine eb_and (eb_test (et_op rop_ne (et_op rop_ix (et_var rfl (et_int (fx0 rfl (et_str (fne_s (Wv.v2 (fun h => absurd rfl (of_decide_eq_false h)) fun _ => wd_next ?_)))))))))
        exact ⟨_, _, _, _, _, _, _, _, _, _, _, _, _, rfl⟩
  · rintro e ⟨s2, s3, s4, s5, s6, s7, s8, s9, s10, s11, s12, s13, s14, rfl⟩
    exact wd_ret (et_bl rfl)
end
end Lw
namespace Lw
open PySem PySem.Spec PyProof.Rows L2
theorem all_at {l : List Bool} (h : l.all id = true) (i : Nat) {b : Bool} (e : l[i]? = some b) : b = true := List.all_eq_true.mp h b (List.mem_of_getElem? e)
theorem facts {w : World} {K : PySem.W.Frag} {h : Heap} {mg : Str → Option Value} {f : Addr} (X : K.In h) (G : h.Ns mainGlobals mg) (hfa : mg ("law" : Str) = some (.ref f)) (cy : SaysY fa fn xb xs vs tf h K) :
    LamX.LawAtS PySem.Challenge.rw_laternets_k03_nets_refused w K CX0 20 63 "_law_script" mg f h := by
  have c := cy.x
  have c1 : He.SaysD fa fn K := congrArg (fun z : AlX => z.1) c
  have c2 : xb K = true := congrArg (fun z : AlX => z.2.1) c
  have c3 : (xs.map fun x => exAt K (He.ma K (He.ga K x) "__init__")) = vs := congrArg (fun z : AlX => z.2.2) c
  obtain ⟨b1, b2⟩ := He.ba c2
  obtain ⟨b2, c2x⟩ := He.ba b2
  obtain ⟨n1, n2⟩ := He.ba b2
  obtain ⟨n2, n3⟩ := He.ba n2
  have ex : ∀ (i : Nat) (e v : ExV), (xs.map fun x => exAt K (He.ma K (He.ga K x) "__init__"))[i]? = some e → vs[i]? = some v → e = v := fun i e v h1 h2 => by
    rw [c3, h2] at h1
    exact (Option.some.inj h1).symm
  obtain ⟨o1, x0⟩ := He.ba c2x
  obtain ⟨x1, x2⟩ := He.ba x0
  obtain ⟨d0, F0⟩ := c1.def_ 0 rfl
  obtain ⟨d1, F1⟩ := c1.def_ 1 rfl
  obtain ⟨d2, F2⟩ := c1.def_ 2 rfl
  obtain ⟨d3, F3⟩ := c1.def_ 3 rfl
  obtain ⟨d4, F4⟩ := c1.def_ 4 rfl
  obtain ⟨d5, F5⟩ := c1.def_ 5 rfl
  obtain ⟨d6, F6⟩ := c1.def_ 6 rfl
  obtain ⟨d7, F7⟩ := c1.def_ 7 rfl
  obtain ⟨d8, F8⟩ := c1.def_ 8 rfl
  obtain ⟨d9, F9⟩ := c1.def_ 9 rfl
  obtain ⟨d10, F10⟩ := c1.def_ 10 rfl
  obtain ⟨d11, F11⟩ := c1.def_ 11 rfl
  obtain ⟨d12, F12⟩ := c1.def_ 12 rfl
  obtain ⟨d13, F13⟩ := c1.def_ 13 rfl
  obtain ⟨d14, F14⟩ := c1.def_ 14 rfl
  obtain ⟨d15, F15⟩ := c1.def_ 15 rfl
  obtain ⟨d16, F16⟩ := c1.def_ 16 rfl
  obtain ⟨d17, F17⟩ := c1.def_ 17 rfl
  obtain ⟨d18, F18⟩ := c1.def_ 18 rfl
  obtain ⟨d19, F19⟩ := c1.def_ 19 rfl
  obtain ⟨d20, F20⟩ := c1.def_ 20 rfl
  obtain ⟨d21, F21⟩ := c1.def_ 21 rfl
  obtain ⟨d22, F22⟩ := c1.def_ 22 rfl
  obtain ⟨d23, F23⟩ := c1.def_ 23 rfl
  obtain ⟨d24, F24⟩ := c1.def_ 24 rfl
  obtain ⟨d25, F25⟩ := c1.def_ 25 rfl
  obtain ⟨d26, F26⟩ := c1.def_ 26 rfl
  obtain ⟨d27, F27⟩ := c1.def_ 27 rfl
  obtain ⟨d28, F28⟩ := c1.def_ 28 rfl
  obtain ⟨d29, F29⟩ := c1.def_ 29 rfl
  obtain ⟨d30, F30⟩ := c1.def_ 30 rfl
  obtain ⟨d31, F31⟩ := c1.def_ 31 rfl
  obtain ⟨d32, F32⟩ := c1.def_ 32 rfl
  obtain ⟨d33, F33⟩ := c1.def_ 33 rfl
  obtain ⟨d34, F34⟩ := c1.def_ 34 rfl
  obtain ⟨d35, F35⟩ := c1.def_ 35 rfl
  obtain ⟨d36, F36⟩ := c1.def_ 36 rfl
  obtain ⟨d37, F37⟩ := c1.def_ 37 rfl
  obtain ⟨d38, F38⟩ := c1.def_ 38 rfl
  obtain ⟨d39, F39⟩ := c1.def_ 39 rfl
  obtain ⟨d40, F40⟩ := c1.def_ 40 rfl
  obtain ⟨d41, F41⟩ := c1.def_ 41 rfl
  obtain ⟨d42, F42⟩ := c1.def_ 42 rfl
  obtain ⟨d43, F43⟩ := c1.def_ 43 rfl
  obtain ⟨d44, F44⟩ := c1.def_ 44 rfl
  obtain ⟨d45, F45⟩ := c1.def_ 45 rfl
  obtain ⟨d46, F46⟩ := c1.def_ 46 rfl
  obtain ⟨d47, F47⟩ := c1.def_ 47 rfl
  obtain ⟨d48, F48⟩ := c1.def_ 48 rfl
  obtain ⟨d49, F49⟩ := c1.def_ 49 rfl
  obtain ⟨d50, F50⟩ := c1.def_ 50 rfl
  obtain ⟨d51, F51⟩ := c1.def_ 51 rfl
  obtain ⟨d52, F52⟩ := c1.def_ 52 rfl
  obtain ⟨d53, F53⟩ := c1.def_ 53 rfl
  obtain ⟨d54, F54⟩ := c1.def_ 54 rfl
  obtain ⟨d55, F55⟩ := c1.def_ 55 rfl
  obtain ⟨d56, F56⟩ := c1.def_ 56 rfl
  obtain ⟨d57, F57⟩ := c1.def_ 57 rfl
  obtain ⟨d58, F58⟩ := c1.def_ 58 rfl
  obtain ⟨d59, F59⟩ := c1.def_ 59 rfl
  obtain ⟨d60, F60⟩ := c1.def_ 60 rfl
  obtain ⟨d61, F61⟩ := c1.def_ 61 rfl
  obtain ⟨d62, F62⟩ := c1.def_ 62 rfl
  obtain ⟨d63, F63⟩ := c1.def_ 63 rfl
  obtain ⟨d64, F64⟩ := c1.def_ 64 rfl
  obtain ⟨d65, F65⟩ := c1.def_ 65 rfl
  obtain ⟨d66, F66⟩ := c1.def_ 66 rfl
  let T : Txt PR K mg := {
    c_NetError := He.ga K "NetError",
    g_NetError := He.glo_ok X G (c1.fact 45 rfl),
    c_BadBoxes := He.ga K "BadBoxes",
    g_BadBoxes := He.glo_ok X G (c1.fact 46 rfl),
    c_BadBox := He.ga K "BadBox",
    g_BadBox := He.glo_ok X G (c1.fact 47 rfl),
    c_BadOutputs := He.ga K "BadOutputs",
    g_BadOutputs := He.glo_ok X G (c1.fact 48 rfl),
    c_BadOutput := He.ga K "BadOutput",
    g_BadOutput := He.glo_ok X G (c1.fact 49 rfl),
    c_Ring := He.ga K "Ring",
    g_Ring := He.glo_ok X G (c1.fact 50 rfl),
    c_BadTime := He.ga K "BadTime",
    g_BadTime := He.glo_ok X G (c1.fact 51 rfl),
    c_TooLong := He.ga K "TooLong",
    g_TooLong := He.glo_ok X G (c1.fact 52 rfl),
    c_BadMeaning := He.ga K "BadMeaning",
    g_BadMeaning := He.glo_ok X G (c1.fact 53 rfl),
    c_BadNet := He.ga K "BadNet",
    g_BadNet := He.glo_ok X G (c1.fact 54 rfl),
    c_BadLate := He.ga K "BadLate",
    g_BadLate := He.glo_ok X G (c1.fact 55 rfl),
    c_BadTimes := He.ga K "BadTimes",
    g_BadTimes := He.glo_ok X G (c1.fact 56 rfl),
    c_BadDistances := He.ga K "BadDistances",
    g_BadDistances := He.glo_ok X G (c1.fact 57 rfl),
    c_BadPeriod := He.ga K "BadPeriod",
    g_BadPeriod := He.glo_ok X G (c1.fact 58 rfl),
    c_HasNet := He.ga K "HasNet",
    g_HasNet := He.glo_ok X G (c1.fact 59 rfl),
    c_BadInput := He.ga K "BadInput",
    g_BadInput := He.glo_ok X G (c1.fact 60 rfl),
    c_BadLag := He.ga K "BadLag",
    g_BadLag := He.glo_ok X G (c1.fact 61 rfl),
    c_BadText := He.ga K "BadText",
    g_BadText := He.glo_ok X G (c1.fact 62 rfl),
    c_BadMany := He.ga K "BadMany",
    g_BadMany := He.glo_ok X G (c1.fact 63 rfl),
    c_Table := He.ga K "Table",
    g_Table := He.glo_ok X G (c1.fact 64 rfl),
    c_Net := He.ga K "Net",
    g_Net := He.glo_ok X G (c1.fact 65 rfl),
    c_Values := He.ga K "Values",
    g_Values := He.glo_ok X G (c1.fact 66 rfl),
    a__wall := He.fAd K ("_wall", none),
    d__wall := d0,
    F__wall := F0,
    b__wall := F0.bindsN fun _ _ _ _ _ _ us hl => match us, hl with | [_], _ => rfl,
    g__wall := He.glo_ok X G (c1.fact 0 rfl),
    a_is_integer := He.fAd K ("is_integer", none),
    d_is_integer := d1,
    F_is_integer := F1,
    b_is_integer := F1.bindsN fun _ _ _ _ _ _ us hl => match us, hl with | [_], _ => rfl,
    g_is_integer := He.glo_ok X G (c1.fact 1 rfl),
    a_is_list := He.fAd K ("is_list", none),
    d_is_list := d2,
    F_is_list := F2,
    b_is_list := F2.bindsN fun _ _ _ _ _ _ us hl => match us, hl with | [_], _ => rfl,
    g_is_list := He.glo_ok X G (c1.fact 2 rfl),
    a_is_word := He.fAd K ("is_word", none),
    d_is_word := d3,
    F_is_word := F3,
    b_is_word := F3.bindsN fun _ _ _ _ _ _ us hl => match us, hl with | [_], _ => rfl,
    g_is_word := He.glo_ok X G (c1.fact 3 rfl),
    a_is_ground := He.fAd K ("is_ground", none),
    d_is_ground := d4,
    F_is_ground := F4,
    b_is_ground := F4.bindsN fun _ _ _ _ _ _ us hl => match us, hl with | [_], _ => rfl,
    g_is_ground := He.glo_ok X G (c1.fact 4 rfl),
    a_as_term := He.fAd K ("as_term", none),
    d_as_term := d5,
    F_as_term := F5,
    b_as_term := F5.bindsN fun _ _ _ _ _ _ us hl => match us, hl with | [_], _ => rfl,
    g_as_term := He.glo_ok X G (c1.fact 5 rfl),
    a_term_text := He.fAd K ("term_text", none),
    d_term_text := d6,
    F_term_text := F6,
    b_term_text := F6.bindsN fun _ _ _ _ _ _ us hl => match us, hl with | [_], _ => rfl,
    g_term_text := He.glo_ok X G (c1.fact 6 rfl),
    a_Table_init := He.fAd K ("Table", some "__init__"),
    d_Table_init := d7,
    F_Table_init := F7,
    b_Table_init := F7.bindsN fun _ _ _ _ _ _ us hl => match us, hl with | [_], _ => rfl,
    m_Table_init := He.meth_ok (c1.fact 101 rfl),
    a_Table_number := He.fAd K ("Table", some "number"),
    d_Table_number := d8,
    F_Table_number := F8,
    b_Table_number := F8.bindsN fun _ _ _ _ _ _ us hl => match us, hl with | [_, _], _ => rfl,
    m_Table_number := He.meth_ok (c1.fact 102 rfl),
    a_Table_ground := He.fAd K ("Table", some "ground"),
    d_Table_ground := d9,
    F_Table_ground := F9,
    b_Table_ground := F9.bindsN fun _ _ _ _ _ _ us hl => match us, hl with | [_, _], _ => rfl,
    m_Table_ground := He.meth_ok (c1.fact 103 rfl),
    a_Table_term := He.fAd K ("Table", some "term"),
    d_Table_term := d10,
    F_Table_term := F10,
    b_Table_term := F10.bindsN fun _ _ _ _ _ _ us hl => match us, hl with | [_, _], _ => rfl,
    m_Table_term := He.meth_ok (c1.fact 104 rfl),
    a_is_wire := He.fAd K ("is_wire", none),
    d_is_wire := d11,
    F_is_wire := F11,
    b_is_wire := F11.bindsN fun _ _ _ _ _ _ us hl => match us, hl with | [_, _], _ => rfl,
    g_is_wire := He.glo_ok X G (c1.fact 7 rfl),
    a_as_wire := He.fAd K ("as_wire", none),
    d_as_wire := d12,
    F_as_wire := F12,
    b_as_wire := F12.bindsN fun _ _ _ _ _ _ us hl => match us, hl with | [_], _ => rfl,
    g_as_wire := He.glo_ok X G (c1.fact 8 rfl),
    a_is_box := He.fAd K ("is_box", none),
    d_is_box := d13,
    F_is_box := F13,
    b_is_box := F13.bindsN fun _ _ _ _ _ _ us hl => match us, hl with | [_, _, _], _ => rfl,
    g_is_box := He.glo_ok X G (c1.fact 9 rfl),
    a_as_box := He.fAd K ("as_box", none),
    d_as_box := d14,
    F_as_box := F14,
    b_as_box := F14.bindsN fun _ _ _ _ _ _ us hl => match us, hl with | [_], _ => rfl,
    g_as_box := He.glo_ok X G (c1.fact 10 rfl),
    a_copied_box := He.fAd K ("copied_box", none),
    d_copied_box := d15,
    F_copied_box := F15,
    b_copied_box := F15.bindsN fun _ _ _ _ _ _ us hl => match us, hl with | [_], _ => rfl,
    g_copied_box := He.glo_ok X G (c1.fact 11 rfl),
    a_copied_wire := He.fAd K ("copied_wire", none),
    d_copied_wire := d16,
    F_copied_wire := F16,
    b_copied_wire := F16.bindsN fun _ _ _ _ _ _ us hl => match us, hl with | [_], _ => rfl,
    g_copied_wire := He.glo_ok X G (c1.fact 12 rfl),
    a_wires_of_box := He.fAd K ("wires_of_box", none),
    d_wires_of_box := d17,
    F_wires_of_box := F17,
    b_wires_of_box := F17.bindsN fun _ _ _ _ _ _ us hl => match us, hl with | [_], _ => rfl,
    g_wires_of_box := He.glo_ok X G (c1.fact 13 rfl),
    a_checked_boxes := He.fAd K ("checked_boxes", none),
    d_checked_boxes := d18,
    F_checked_boxes := F18,
    b_checked_boxes := F18.bindsN fun _ _ _ _ _ _ us hl => match us, hl with | [_], _ => rfl,
    g_checked_boxes := He.glo_ok X G (c1.fact 14 rfl),
    a_checked_outputs := He.fAd K ("checked_outputs", none),
    d_checked_outputs := d19,
    F_checked_outputs := F19,
    b_checked_outputs := F19.bindsN fun _ _ _ _ _ _ us hl => match us, hl with | [_, _], _ => rfl,
    g_checked_outputs := He.glo_ok X G (c1.fact 15 rfl),
    a_order_of := He.fAd K ("order_of", none),
    d_order_of := d20,
    F_order_of := F20,
    b_order_of := F20.bindsN fun _ _ _ _ _ _ us hl => match us, hl with | [_], _ => rfl,
    g_order_of := He.glo_ok X G (c1.fact 16 rfl),
    a_reached := He.fAd K ("reached", none),
    d_reached := d21,
    F_reached := F21,
    b_reached := F21.bindsN fun _ _ _ _ _ _ us hl => match us, hl with | [_, _, _], _ => rfl,
    g_reached := He.glo_ok X G (c1.fact 17 rfl),
    a_Net_init := He.fAd K ("Net", some "__init__"),
    d_Net_init := d22,
    F_Net_init := F22,
    b_Net_init := F22.bindsN fun _ _ _ _ _ _ us hl => match us, hl with | [_, _, _], _ => rfl,
    m_Net_init := He.meth_ok (c1.fact 105 rfl),
    a_Net_eq := He.fAd K ("Net", some "__eq__"),
    d_Net_eq := d23,
    F_Net_eq := F23,
    b_Net_eq := F23.bindsN fun _ _ _ _ _ _ us hl => match us, hl with | [_, _], _ => rfl,
    m_Net_eq := He.meth_ok (c1.fact 106 rfl),
    a_Net_boxes := He.fAd K ("Net", some "boxes"),
    d_Net_boxes := d24,
    F_Net_boxes := F24,
    b_Net_boxes := F24.bindsN fun _ _ _ _ _ _ us hl => match us, hl with | [_], _ => rfl,
    m_Net_boxes := He.meth_ok (c1.fact 107 rfl),
    a_Net_outputs := He.fAd K ("Net", some "outputs"),
    d_Net_outputs := d25,
    F_Net_outputs := F25,
    b_Net_outputs := F25.bindsN fun _ _ _ _ _ _ us hl => match us, hl with | [_], _ => rfl,
    m_Net_outputs := He.meth_ok (c1.fact 108 rfl),
    a_Net_counting := He.fAd K ("Net", some "counting"),
    d_Net_counting := d26,
    F_Net_counting := F26,
    b_Net_counting := F26.bindsN fun _ _ _ _ _ _ us hl => match us, hl with | [_], _ => rfl,
    m_Net_counting := He.meth_ok (c1.fact 109 rfl),
    a_Net_is_plain := He.fAd K ("Net", some "is_plain"),
    d_Net_is_plain := d27,
    F_Net_is_plain := F27,
    b_Net_is_plain := F27.bindsN fun _ _ _ _ _ _ us hl => match us, hl with | [_], _ => rfl,
    m_Net_is_plain := He.meth_ok (c1.fact 110 rfl),
    a_Net_ahead := He.fAd K ("Net", some "ahead"),
    d_Net_ahead := d28,
    F_Net_ahead := F28,
    b_Net_ahead := F28.bindsN fun _ _ _ _ _ _ us hl => match us, hl with | [_], _ => rfl,
    m_Net_ahead := He.meth_ok (c1.fact 111 rfl),
    a_Net_term := He.fAd K ("Net", some "term"),
    d_Net_term := d29,
    F_Net_term := F29,
    b_Net_term := F29.bindsN fun _ _ _ _ _ _ us hl => match us, hl with | [_, _, _], _ => rfl,
    m_Net_term := He.meth_ok (c1.fact 112 rfl),
    a_Net_shown := He.fAd K ("Net", some "shown"),
    d_Net_shown := d30,
    F_Net_shown := F30,
    b_Net_shown := F30.bindsN fun _ _ _ _ _ _ us hl => match us, hl with | [_, _, _], _ => rfl,
    m_Net_shown := He.meth_ok (c1.fact 113 rfl),
    a_Net_told_term := He.fAd K ("Net", some "told_term"),
    d_Net_told_term := d31,
    F_Net_told_term := F31,
    b_Net_told_term := F31.bindsN fun _ _ _ _ _ _ us hl => match us, hl with | [_, _, _], _ => rfl,
    m_Net_told_term := He.meth_ok (c1.fact 114 rfl),
    a_Net_played := He.fAd K ("Net", some "played"),
    d_Net_played := d32,
    F_Net_played := F32,
    b_Net_played := F32.bindsN fun _ _ _ _ _ _ us hl => match us, hl with | [_, _, _], _ => rfl,
    m_Net_played := He.meth_ok (c1.fact 115 rfl),
    a_Net_text := He.fAd K ("Net", some "text"),
    d_Net_text := d33,
    F_Net_text := F33,
    b_Net_text := F33.bindsN fun _ _ _ _ _ _ us hl => match us, hl with | [_], _ => rfl,
    m_Net_text := He.meth_ok (c1.fact 116 rfl),
    a_checked_time := He.fAd K ("checked_time", none),
    d_checked_time := d34,
    F_checked_time := F34,
    b_checked_time := F34.bindsN fun _ _ _ _ _ _ us hl => match us, hl with | [_], _ => rfl,
    g_checked_time := He.glo_ok X G (c1.fact 18 rfl),
    a_Values_init := He.fAd K ("Values", some "__init__"),
    d_Values_init := d35,
    F_Values_init := F35,
    b_Values_init := F35.bindsN fun _ _ _ _ _ _ us hl => match us, hl with | [_, _, _], _ => rfl,
    m_Values_init := He.meth_ok (c1.fact 117 rfl),
    a_Values_start_number := He.fAd K ("Values", some "start_number"),
    d_Values_start_number := d36,
    F_Values_start_number := F36,
    b_Values_start_number := F36.bindsN fun _ _ _ _ _ _ us hl => match us, hl with | [_, _], _ => rfl,
    m_Values_start_number := He.meth_ok (c1.fact 118 rfl),
    a_Values_came := He.fAd K ("Values", some "came"),
    d_Values_came := d37,
    F_Values_came := F37,
    b_Values_came := F37.bindsN fun _ _ _ _ _ _ us hl => match us, hl with | [_, _, _], _ => rfl,
    m_Values_came := He.meth_ok (c1.fact 119 rfl),
    a_Values_given := He.fAd K ("Values", some "given"),
    d_Values_given := d38,
    F_Values_given := F38,
    b_Values_given := F38.bindsN fun _ _ _ _ _ _ us hl => match us, hl with | [_, _, _], _ => rfl,
    m_Values_given := He.meth_ok (c1.fact 120 rfl),
    a_Values_adds_row := He.fAd K ("Values", some "adds_row"),
    d_Values_adds_row := d39,
    F_Values_adds_row := F39,
    b_Values_adds_row := F39.bindsN fun _ _ _ _ _ _ us hl => match us, hl with | [_], _ => rfl,
    m_Values_adds_row := He.meth_ok (c1.fact 121 rfl),
    a_Values_given_now := He.fAd K ("Values", some "given_now"),
    d_Values_given_now := d40,
    F_Values_given_now := F40,
    b_Values_given_now := F40.bindsN fun _ _ _ _ _ _ us hl => match us, hl with | [_, _, _, _], _ => rfl,
    m_Values_given_now := He.meth_ok (c1.fact 122 rfl),
    a_wire_text := He.fAd K ("wire_text", none),
    d_wire_text := d41,
    F_wire_text := F41,
    b_wire_text := F41.bindsN fun _ _ _ _ _ _ us hl => match us, hl with | [_], _ => rfl,
    g_wire_text := He.glo_ok X G (c1.fact 19 rfl),
    a_fresh := He.fAd K ("_law_fresh", none),
    d_fresh := d42,
    F_fresh := F42,
    b_fresh := F42.bindsN fun _ _ _ _ _ _ us hl => match us, hl with | [_], _ => rfl,
    g_fresh := He.glo_ok X G (c1.fact 20 rfl),
    a_fill := He.fAd K ("_law_fill", none),
    d_fill := d43,
    F_fill := F43,
    b_fill := F43.bindsN fun _ _ _ _ _ _ us hl => match us, hl with | [_], _ => rfl,
    g_fill := He.glo_ok X G (c1.fact 21 rfl),
    a_take := He.fAd K ("_law_take", none),
    d_take := d44,
    F_take := F44,
    b_take := F44.bindsN fun _ _ _ _ _ _ us hl => match us, hl with | [_, _], _ => rfl,
    g_take := He.glo_ok X G (c1.fact 22 rfl),
    a_one := He.fAd K ("_law_one", none),
    d_one := d45,
    F_one := F45,
    b_one := F45.bindsN fun _ _ _ _ _ _ us hl => match us, hl with | [_, _], _ => rfl,
    g_one := He.glo_ok X G (c1.fact 23 rfl),
    a_mix := He.fAd K ("_law_mix", none),
    d_mix := d46,
    F_mix := F46,
    b_mix := F46.bindsN fun _ _ _ _ _ _ us hl => match us, hl with | [_, _], _ => rfl,
    g_mix := He.glo_ok X G (c1.fact 24 rfl),
    a_same := He.fAd K ("_law_same", none),
    d_same := d47,
    F_same := F47,
    b_same := F47.bindsN fun _ _ _ _ _ _ us hl => match us, hl with | [_, _], _ => rfl,
    g_same := He.glo_ok X G (c1.fact 25 rfl),
    a_tried := He.fAd K ("_law_tried", none),
    d_tried := d48,
    F_tried := F48,
    b_tried := F48.bindsN fun _ _ _ _ _ _ us hl => match us, hl with | [_], _ => rfl,
    g_tried := He.glo_ok X G (c1.fact 26 rfl),
    a_error := He.fAd K ("_law_error", none),
    d_error := d49,
    F_error := F49,
    b_error := F49.bindsN fun _ _ _ _ _ _ us hl => match us, hl with | [_], _ => rfl,
    g_error := He.glo_ok X G (c1.fact 27 rfl),
    a_other_error := He.fAd K ("_law_other_error", none),
    d_other_error := d50,
    F_other_error := F50,
    b_other_error := F50.bindsN fun _ _ _ _ _ _ us hl => match us, hl with | [_], _ => rfl,
    g_other_error := He.glo_ok X G (c1.fact 28 rfl),
    a_arity := He.fAd K ("_law_arity", none),
    d_arity := d51,
    F_arity := F51,
    b_arity := F51.bindsN fun _ _ _ _ _ _ us hl => match us, hl with | [_], _ => rfl,
    g_arity := He.glo_ok X G (c1.fact 29 rfl),
    a_starts := He.fAd K ("_law_starts", none),
    d_starts := d52,
    F_starts := F52,
    b_starts := F52.bindsN fun _ _ _ _ _ _ us hl => match us, hl with | [_, _, _], _ => rfl,
    g_starts := He.glo_ok X G (c1.fact 30 rfl),
    a_names := He.fAd K ("_law_names", none),
    d_names := d53,
    F_names := F53,
    b_names := F53.bindsN fun _ _ _ _ _ _ us hl => match us, hl with | [_, _], _ => rfl,
    g_names := He.glo_ok X G (c1.fact 31 rfl),
    a_drawn := He.fAd K ("_law_drawn", none),
    d_drawn := d54,
    F_drawn := F54,
    b_drawn := F54.bindsN fun _ _ _ _ _ _ us hl => match us, hl with | [_, _, _, _], _ => rfl,
    g_drawn := He.glo_ok X G (c1.fact 32 rfl),
    a_l_is_list := He.fAd K ("_law_is_list", none),
    d_l_is_list := d55,
    F_l_is_list := F55,
    b_l_is_list := F55.bindsN fun _ _ _ _ _ _ us hl => match us, hl with | [_], _ => rfl,
    g_l_is_list := He.glo_ok X G (c1.fact 33 rfl),
    a_wires := He.fAd K ("_law_wires", none),
    d_wires := d56,
    F_wires := F56,
    b_wires := F56.bindsN fun _ _ _ _ _ _ us hl => match us, hl with | [_], _ => rfl,
    g_wires := He.glo_ok X G (c1.fact 34 rfl),
    a_l_is_word := He.fAd K ("_law_is_word", none),
    d_l_is_word := d57,
    F_l_is_word := F57,
    b_l_is_word := F57.bindsN fun _ _ _ _ _ _ us hl => match us, hl with | [_], _ => rfl,
    g_l_is_word := He.glo_ok X G (c1.fact 35 rfl),
    a_l_is_ground := He.fAd K ("_law_is_ground", none),
    d_l_is_ground := d58,
    F_l_is_ground := F58,
    b_l_is_ground := F58.bindsN fun _ _ _ _ _ _ us hl => match us, hl with | [_], _ => rfl,
    g_l_is_ground := He.glo_ok X G (c1.fact 36 rfl),
    a_l_is_wire := He.fAd K ("_law_is_wire", none),
    d_l_is_wire := d59,
    F_l_is_wire := F59,
    b_l_is_wire := F59.bindsN fun _ _ _ _ _ _ us hl => match us, hl with | [_, _], _ => rfl,
    g_l_is_wire := He.glo_ok X G (c1.fact 37 rfl),
    a_l_is_box := He.fAd K ("_law_is_box", none),
    d_l_is_box := d60,
    F_l_is_box := F60,
    b_l_is_box := F60.bindsN fun _ _ _ _ _ _ us hl => match us, hl with | [_, _], _ => rfl,
    g_l_is_box := He.glo_ok X G (c1.fact 38 rfl),
    a_made_due := He.fAd K ("_law_made_due", none),
    d_made_due := d61,
    F_made_due := F61,
    b_made_due := F61.bindsN fun _ _ _ _ _ _ us hl => match us, hl with | [_, _], _ => rfl,
    g_made_due := He.glo_ok X G (c1.fact 39 rfl),
    a_is_on_ring := He.fAd K ("_law_is_on_ring", none),
    d_is_on_ring := d62,
    F_is_on_ring := F62,
    b_is_on_ring := F62.bindsN fun _ _ _ _ _ _ us hl => match us, hl with | [_, _], _ => rfl,
    g_is_on_ring := He.glo_ok X G (c1.fact 40 rfl),
    a_odd_things := He.fAd K ("_law_odd_things", none),
    d_odd_things := d63,
    F_odd_things := F63,
    b_odd_things := F63.bindsN fun _ _ _ _ _ _ us hl => match us, hl with | [], _ => rfl,
    g_odd_things := He.glo_ok X G (c1.fact 41 rfl),
    a_bent_wire := He.fAd K ("_law_bent_wire", none),
    d_bent_wire := d64,
    F_bent_wire := F64,
    b_bent_wire := F64.bindsN fun _ _ _ _ _ _ us hl => match us, hl with | [_, _, _], _ => rfl,
    g_bent_wire := He.glo_ok X G (c1.fact 42 rfl),
    a_bent_box := He.fAd K ("_law_bent_box", none),
    d_bent_box := d65,
    F_bent_box := F65,
    b_bent_box := F65.bindsN fun _ _ _ _ _ _ us hl => match us, hl with | [_, _, _], _ => rfl,
    g_bent_box := He.glo_ok X G (c1.fact 43 rfl),
    a_law := He.fAd K ("law", none),
    d_law := d66,
    F_law := F66,
    b_law := F66.bindsN fun _ _ _ _ _ _ us hl => match us, hl with | [_], _ => rfl,
    l_Table := He.cls_ok (c1.fact 85 rfl),
    i_Table := ownIB_ok (all_at o1 0 rfl),
    k_Table := He.mkr_ok (c1.fact 86 rfl),
    o_Table_numbers := He.noat_ok (c1.fact 87 rfl),
    o_Table_key_rows := He.noat_ok (c1.fact 88 rfl),
    o_Table_sizes := He.noat_ok (c1.fact 89 rfl),
    o_Table_latest := He.noat_ok (c1.fact 90 rfl),
    l_Net := He.cls_ok (c1.fact 91 rfl),
    i_Net := ownIB_ok (all_at o1 1 rfl),
    q_Net := ownCB_ok (all_at o1 2 rfl),
    k_Net := He.mkr_ok (c1.fact 92 rfl),
    o_Net_box_table := He.noat_ok (c1.fact 93 rfl),
    o_Net_output_table := He.noat_ok (c1.fact 94 rfl),
    o_Net_order := He.noat_ok (c1.fact 95 rfl),
    l_Values := He.cls_ok (c1.fact 96 rfl),
    i_Values := ownIB_ok (all_at o1 3 rfl),
    k_Values := He.mkr_ok (c1.fact 97 rfl),
    o_Values_net := He.noat_ok (c1.fact 98 rfl),
    o_Values_table := He.noat_ok (c1.fact 99 rfl),
    o_Values_rows := He.noat_ok (c1.fact 100 rfl),
    e_NetError := (excB_ok n3).1,
    x_NetError := n1,
    k_NetError := n2,
    e_BadBoxes := (excB_ok (He.ba (all_at b1 0 rfl)).2).1,
    f_BadBoxes := He.ma K (He.ga K "BadBoxes") "__init__",
    X_BadBoxes := xB_ok (st := inClass (top 3) 0) (He.ba (all_at b1 0 rfl)).1 (ex 0 _ _ rfl rfl) y_thing (by decide +kernel) rfl rfl rfl rfl,
    y_BadBoxes := (excB_ok (He.ba (all_at b1 0 rfl)).2).2,
    e_BadBox := (excB_ok (He.ba (all_at b1 1 rfl)).2).1,
    f_BadBox := He.ma K (He.ga K "BadBox") "__init__",
    X_BadBox := xB_ok (st := inClass (top 4) 0) (He.ba (all_at b1 1 rfl)).1 (ex 1 _ _ rfl rfl) y_name (by decide +kernel) rfl rfl rfl rfl,
    y_BadBox := (excB_ok (He.ba (all_at b1 1 rfl)).2).2,
    e_BadOutputs := (excB_ok (He.ba (all_at b1 2 rfl)).2).1,
    f_BadOutputs := He.ma K (He.ga K "BadOutputs") "__init__",
    X_BadOutputs := xB_ok (st := inClass (top 5) 0) (He.ba (all_at b1 2 rfl)).1 (ex 2 _ _ rfl rfl) y_thing (by decide +kernel) rfl rfl rfl rfl,
    y_BadOutputs := (excB_ok (He.ba (all_at b1 2 rfl)).2).2,
    e_BadOutput := (excB_ok (He.ba (all_at b1 3 rfl)).2).1,
    f_BadOutput := He.ma K (He.ga K "BadOutput") "__init__",
    X_BadOutput := xB_ok (st := inClass (top 6) 0) (He.ba (all_at b1 3 rfl)).1 (ex 3 _ _ rfl rfl) y_name (by decide +kernel) rfl rfl rfl rfl,
    y_BadOutput := (excB_ok (He.ba (all_at b1 3 rfl)).2).2,
    e_Ring := (excB_ok (He.ba (all_at b1 4 rfl)).2).1,
    f_Ring := He.ma K (He.ga K "Ring") "__init__",
    X_Ring := xB_ok (st := inClass (top 7) 0) (He.ba (all_at b1 4 rfl)).1 (ex 4 _ _ rfl rfl) y_name (by decide +kernel) rfl rfl rfl rfl,
    y_Ring := (excB_ok (He.ba (all_at b1 4 rfl)).2).2,
    e_BadTime := (excB_ok (He.ba (all_at b1 5 rfl)).2).1,
    f_BadTime := He.ma K (He.ga K "BadTime") "__init__",
    X_BadTime := xB_ok (st := inClass (top 8) 0) (He.ba (all_at b1 5 rfl)).1 (ex 5 _ _ rfl rfl) y_time (by decide +kernel) rfl rfl rfl rfl,
    y_BadTime := (excB_ok (He.ba (all_at b1 5 rfl)).2).2,
    e_TooLong := (excB_ok (He.ba (all_at b1 6 rfl)).2).1,
    f_TooLong := He.ma K (He.ga K "TooLong") "__init__",
    X_TooLong := xB_ok (st := inClass (top 9) 0) (He.ba (all_at b1 6 rfl)).1 (ex 6 _ _ rfl rfl) y_time (by decide +kernel) rfl rfl rfl rfl,
    y_TooLong := (excB_ok (He.ba (all_at b1 6 rfl)).2).2,
    e_BadMeaning := (excB_ok (He.ba (all_at b1 7 rfl)).2).1,
    f_BadMeaning := He.ma K (He.ga K "BadMeaning") "__init__",
    X_BadMeaning := xB_ok (st := inClass (top 10) 0) (He.ba (all_at b1 7 rfl)).1 (ex 7 _ _ rfl rfl) y_meaning (by decide +kernel) rfl rfl rfl rfl,
    y_BadMeaning := (excB_ok (He.ba (all_at b1 7 rfl)).2).2,
    e_BadNet := (excB_ok (He.ba (all_at b1 8 rfl)).2).1,
    f_BadNet := He.ma K (He.ga K "BadNet") "__init__",
    X_BadNet := xB_ok (st := inClass (top 11) 0) (He.ba (all_at b1 8 rfl)).1 (ex 8 _ _ rfl rfl) y_net (by decide +kernel) rfl rfl rfl rfl,
    y_BadNet := (excB_ok (He.ba (all_at b1 8 rfl)).2).2,
    e_BadLate := (excB_ok (He.ba (all_at b1 9 rfl)).2).1,
    f_BadLate := He.ma K (He.ga K "BadLate") "__init__",
    X_BadLate := xB_ok (st := inClass (top 12) 0) (He.ba (all_at b1 9 rfl)).1 (ex 9 _ _ rfl rfl) y_late (by decide +kernel) rfl rfl rfl rfl,
    y_BadLate := (excB_ok (He.ba (all_at b1 9 rfl)).2).2,
    e_BadTimes := (excB_ok (He.ba (all_at b1 10 rfl)).2).1,
    f_BadTimes := He.ma K (He.ga K "BadTimes") "__init__",
    X_BadTimes := xB_ok (st := inClass (top 13) 0) (He.ba (all_at b1 10 rfl)).1 (ex 10 _ _ rfl rfl) y_times (by decide +kernel) rfl rfl rfl rfl,
    y_BadTimes := (excB_ok (He.ba (all_at b1 10 rfl)).2).2,
    e_BadDistances := (excB_ok (He.ba (all_at b1 11 rfl)).2).1,
    f_BadDistances := He.ma K (He.ga K "BadDistances") "__init__",
    X_BadDistances := xB_ok (st := inClass (top 14) 0) (He.ba (all_at b1 11 rfl)).1 (ex 11 _ _ rfl rfl) y_distances (by decide +kernel) rfl rfl rfl rfl,
    y_BadDistances := (excB_ok (He.ba (all_at b1 11 rfl)).2).2,
    e_BadPeriod := (excB_ok (He.ba (all_at b1 12 rfl)).2).1,
    f_BadPeriod := He.ma K (He.ga K "BadPeriod") "__init__",
    X_BadPeriod := xB_ok (st := inClass (top 15) 0) (He.ba (all_at b1 12 rfl)).1 (ex 12 _ _ rfl rfl) y_period (by decide +kernel) rfl rfl rfl rfl,
    y_BadPeriod := (excB_ok (He.ba (all_at b1 12 rfl)).2).2,
    e_HasNet := (excB_ok (He.ba (all_at b1 13 rfl)).2).1,
    f_HasNet := He.ma K (He.ga K "HasNet") "__init__",
    X_HasNet := xB_ok (st := inClass (top 16) 0) (He.ba (all_at b1 13 rfl)).1 (ex 13 _ _ rfl rfl) y_period (by decide +kernel) rfl rfl rfl rfl,
    y_HasNet := (excB_ok (He.ba (all_at b1 13 rfl)).2).2,
    e_BadInput := (excB_ok (He.ba (all_at b1 14 rfl)).2).1,
    f_BadInput := He.ma K (He.ga K "BadInput") "__init__",
    X_BadInput := xB_ok (st := inClass (top 17) 0) (He.ba (all_at b1 14 rfl)).1 (ex 14 _ _ rfl rfl) y_name (by decide +kernel) rfl rfl rfl rfl,
    y_BadInput := (excB_ok (He.ba (all_at b1 14 rfl)).2).2,
    e_BadLag := (excB_ok (He.ba (all_at b1 15 rfl)).2).1,
    f_BadLag := He.ma K (He.ga K "BadLag") "__init__",
    X_BadLag := xB_ok (st := inClass (top 18) 0) (He.ba (all_at b1 15 rfl)).1 (ex 15 _ _ rfl rfl) y_lag (by decide +kernel) rfl rfl rfl rfl,
    y_BadLag := (excB_ok (He.ba (all_at b1 15 rfl)).2).2,
    e_BadText := (excB_ok (He.ba (all_at b1 16 rfl)).2).1,
    f_BadText := He.ma K (He.ga K "BadText") "__init__",
    X_BadText := xB_ok (st := inClass (top 19) 0) (He.ba (all_at b1 16 rfl)).1 (ex 16 _ _ rfl rfl) y_line (by decide +kernel) rfl rfl rfl rfl,
    y_BadText := (excB_ok (He.ba (all_at b1 16 rfl)).2).2,
    e_BadMany := (excB_ok (He.ba (all_at b1 17 rfl)).2).1,
    f_BadMany := He.ma K (He.ga K "BadMany") "__init__",
    X_BadMany := xB_ok (st := inClass (top 20) 0) (He.ba (all_at b1 17 rfl)).1 (ex 17 _ _ rfl rfl) y_many (by decide +kernel) rfl rfl rfl rfl,
    y_BadMany := (excB_ok (He.ba (all_at b1 17 rfl)).2).2,
    kx := kxB_ok x1,
    nx := nxB_ok x2,
    h_LETTERS := He.str_ok X G (c1.fact 123 rfl),
    h_MOST_PARTS := He.int_ok X G (c1.fact 124 rfl),
    h_MOST_SIZE := He.int_ok X G (c1.fact 125 rfl),
    h_MOST_WIRES := He.int_ok X G (c1.fact 126 rfl),
    h_MOST_OUTPUTS := He.int_ok X G (c1.fact 127 rfl),
    h_MOST_TOLD := He.int_ok X G (c1.fact 128 rfl),
    n_ValueError := He.free_ok X G (c1.fact 67 rfl),
    n_all := He.free_ok X G (c1.fact 68 rfl),
    n_bool := He.free_ok X G (c1.fact 69 rfl),
    n_dict := He.free_ok X G (c1.fact 70 rfl),
    n_enumerate := He.free_ok X G (c1.fact 71 rfl),
    n_int := He.free_ok X G (c1.fact 72 rfl),
    n_isinstance := He.free_ok X G (c1.fact 73 rfl),
    n_len := He.free_ok X G (c1.fact 74 rfl),
    n_list := He.free_ok X G (c1.fact 75 rfl),
    n_max := He.free_ok X G (c1.fact 76 rfl),
    n_min := He.free_ok X G (c1.fact 77 rfl),
    n_range := He.free_ok X G (c1.fact 78 rfl),
    n_sorted := He.free_ok X G (c1.fact 79 rfl),
    n_staticmethod := He.free_ok X G (c1.fact 80 rfl),
    n_str := He.free_ok X G (c1.fact 81 rfl),
    n_sum := He.free_ok X G (c1.fact 82 rfl),
    n_tuple := He.free_ok X G (c1.fact 83 rfl),
    n_zip := He.free_ok X G (c1.fact 84 rfl) }
  have e := hfa.symm.trans (He.glo_ok X G (c1.fact 44 rfl))
  cases e
  have b := FunD.bindsA (ps := ["_law_script"]) F66 fun _ _ _ _ _ _ us hl => match us, hl with | [_], _ => rfl
  have hm : ∀ p ∈ [((He.cT K ("law", none)).1, (He.cT K ("law", none)).2)], p = He.cT K ("law", none) := fun p hp => List.mem_singleton.mp hp
  refine ⟨_, [((He.cT K ("law", none)).1, (He.cT K ("law", none)).2)], spLawT K [((He.cT K ("law", none)).1, (He.cT K ("law", none)).2)], fun p hp => ?_, fun p hp => ?_, fun p hp => ?_, fun s v => b s [v] rfl, fun H a ns hl _ hT hS => ⟨a, ns, rfl, hS, hl, hT, fun _ => rfl⟩, fun base _ _ hTB => ok_law T (code_of F66) hTB⟩
  · rw [hm p hp]; exact cy.empty _ List.mem_cons_self
  · rw [hm p hp]; exact cy.out _ List.mem_cons_self
  · rw [hm p hp]; exact PySem.W.codeHd_of_K X (cy.hd _ List.mem_cons_self)
end Lw
open PySem PySem.W PySem.Calls PyProof.Rows
theorem PySem.Challenge.cw_laternets_k03_nets_refused_holds : PySem.Challenge.rw_laternets_k03_nets_refused.Holds := by
  w_on; o_law
  refine HandSHeadRun.head_any (r := OpenLaw.row PySem.Challenge.rw_laternets_k03_nets_refused) (q := view (OpenLaw.row PySem.Challenge.rw_laternets_k03_nets_refused).prog [76]) (H := Lw.hk) (ob := Lw.ob) (M := 60000) (loose := Lw.loose) (d := HandSHeadRun.topDef (OpenLaw.row PySem.Challenge.rw_laternets_k03_nets_refused).prog 76) (kwd := []) Lw.ob_eq
    (by kernel_rfl) (fun s => by kernel_rfl) Lw.run (by kernel_rfl) (by kernel_rfl) (by kernel_rfl) (by rfl) (by first | assumption | decide +kernel) (by decide +kernel) ⟨rfl, rfl, rfl, rfl, rfl, by decide +kernel⟩ ?hw ?hc
  case hw => w_witness2
  case hc =>
    refine LamX.walk_ofTsE (l := PySem.Challenge.rw_laternets_k03_nets_refused) (n := 63) (k := 20) (x := "_law_script") (CX := fun _ => L2.CX0) rfl (by decide) (by kernel_rfl) ⟨rfl, by decide, by decide⟩ ?F (fun _ _ _ _ _ z => z)
    intro w mg fa h Y G hmg0
    obtain ⟨K, KX, c⟩ := Y
    have hmg : mg ("law" : PySem.Str) = some (.ref fa) := by
      have e : (HandSHeadRun.topDef (OpenLaw.row PySem.Challenge.rw_laternets_k03_nets_refused).prog 76).name = ("law" : PySem.Str) := by kernel_rfl
      rw [← e]
      exact hmg0
    exact ⟨K, KX, Lw.facts (w := w) KX G hmg c⟩
