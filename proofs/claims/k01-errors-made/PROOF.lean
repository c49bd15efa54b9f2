import PyProof.Rows.All
import Wide.All
import OpenK.AllK
import Wide.FinOn
import KE.KExcSuper
import KE.KExcIs
import HandS.ForExc
import HandS.ExcInit
import HandS.ExcField
import HandS.ExcIs
import HandS.IsInst
import HandS.Defaults
import HandS.ExcValue
import HandS.New
import HandS.MakeKw
import HandS.ExcOwn
import KE.GoesMore
import KE.GoesEnum
import HandS.Base
import HandS.Call
import HandS.List
import HandS.Iter
import HandS.Ends
import HandS.More
import HandS.Words
import HandS.WordsExc
import HandS.DeepEq
import HandS.Flow
import HandS.Style
import HandS.Comp
import HandS.Evl
import HandS.TupAny
import HandS.Walk
import HandS.Zip
import PyProof.StrBlock2
import PySem.Challenge.RW_laternets_k01_errors_made
import KE.KStateDown
import HandS.Head0
import HandS.Head1
import HandS.Head2
import HandS.HeadEnd
import HandS.HeadHook1
import HandS.HeadHook2
set_option Elab.async false
set_option linter.all false
set_option maxRecDepth 100000
set_option maxHeartbeats 0
/-! An own exception class over ValueError (some own classes may lie between) whose __init__ says super().__init__(y); self.y = y: made, held as a value, read, asked by isinstance. -/
namespace Sx
open PySem PySem.Spec PySem.W PySem.Calls PyProof.Rows PySem.HandSPX

def iArgs (y : Str) (p1 p2 : Pos) : Arguments := { posonlyargs := [], args := [{ arg := "self", annotation := none, pos := p1 }, { arg := y, annotation := none, pos := p2 }], vararg := none, kwonlyargs := [], kw_defaults := [], kwarg := none, defaults := [] }
def iSup (y : Str) (q1 q2 q3 q4 q5 q6 : Pos) : Stmt := .Expr (.Call (.Attribute (.Call (.Name "super" q1) [] [] q2) "__init__" q3) [.Name y q4] [] q5) q6
def iSet (y : Str) (q7 q8 q9 q10 : Pos) : Stmt := .Assign [.Attribute (.Name "self" q7) y q8] (.Name y q9) q10
def iScope (y : Str) : Scope := { kind := .function, names := [(PySem.Str.ofString "self", .local), (y, .local), (PySem.Str.ofString "__class__", .free), (PySem.Str.ofString "super", .globalImplicit)], isGenerator := false, isCoroutine := false, more := [] }

/-- a field's name: it is no other name that __init__ uses -/
structure YOk (y : Str) : Prop where
  nself : ¬ (y = "self")
  nclass : ¬ (y = "__class__")
  nsuper : ¬ (y = "super")
  ndebug : (y == ("__debug__" : Str)) = false
  bd : ∀ (qual : Str) (p1 p2 : Pos) (body : List Stmt) (doc pm : Value) (an : Option Addr) (cdv ct : Value) (cc : Addr) (a v : Value),
    bindArgs (ksFn "__init__" qual (iArgs y p1 p2) body (iScope y) .none .none doc pm an cdv ct cc) ⟨[a, v], []⟩ = (pure ([("self", a), (y, v)] : List (Str × Value)) : Sem (List (Str × Value)))
  bk : ∀ (qual : Str) (p1 p2 : Pos) (body : List Stmt) (doc pm : Value) (an : Option Addr) (cdv ct : Value) (cc : Addr) (a v : Value),
    bindArgs (ksFn "__init__" qual (iArgs y p1 p2) body (iScope y) .none .none doc pm an cdv ct cc) ⟨[a], [(y, v)]⟩ = (pure ([("self", a), (y, v)] : List (Str × Value)) : Sem (List (Str × Value)))
theorem y_thing : YOk "thing" := ⟨by decide, by decide, by decide, by decide, fun _ _ _ _ _ _ _ _ _ _ _ _ => rfl, fun _ _ _ _ _ _ _ _ _ _ _ _ => rfl⟩
theorem y_name : YOk "name" := ⟨by decide, by decide, by decide, by decide, fun _ _ _ _ _ _ _ _ _ _ _ _ => rfl, fun _ _ _ _ _ _ _ _ _ _ _ _ => rfl⟩
/-- what the written part says of the class at C, whose __init__ stands at fI; y its field -/
structure XTxt (K : Frag) (prog : Program) (y : Str) (C fI : Addr) : Prop where
  cls : ∃ nm q N bs bm sn sub ab col dd k0 k1 k2 k3 k5, K.lookup C = some (excClassObj nm q C N bs bm true sn sub ab col dd k0 k1 k2 k3 k5 "ValueError.__new__") ∧ refsVE bm = true ∧ alongIn K "__init__" bm = some (some (.builtin "ValueError.__init__"))
  sa : findIn K (.ref C) "__setattr__" = some (some (.builtin "object.__setattr__"))
  noY : findIn K (.ref C) y = some none
  iC : findIn K (.ref C) "__init__" = some (some (.ref fI))
  tC : typeIn K (.ref fI) = some (.type "function")
  kC : keepIn K (.ref C) = true
  th : nsIn K cStatics "thirdparty.any" = some none
  su : nsIn K mainGlobals "super" = some none
  yok : YOk y
  top : (prog.main.scope.names.lookup ("super" : Str)).isSome = false
  fn : ∃ (oc : Value) (od : Option Addr) (qual : Str) (doc pm : Value) (an : Option Addr) (cda cc : Addr) (ct : Value) (osl : Array (Option Value)) (p1 p2 q1 q2 q3 q4 q5 q6 q7 q8 q9 q10 : Pos),
    K.lookup fI = some ⟨oc, od, .func (ksFn "__init__" qual (iArgs y p1 p2) [iSup y q1 q2 q3 q4 q5 q6, iSet y q7 q8 q9 q10] (iScope y) .none .none doc pm an (.ref cda) ct cc), osl⟩ ∧ codeIn K (.ref cda) qual = true ∧
    (∃ ccl cdd vs ccs file tf, K.lookup cda = some ⟨ccl, cdd, .fields vs, ccs⟩ ∧ vs[2]? = some (.str file tf) ∧ ((prog.main.file : Str) == file) = true) ∧
    (q3.endLine == q5.line) = true ∧ (∃ cl cld csl, K.lookup cc = some ⟨cl, cld, .cell (some (.ref C)), csl⟩)

/-- a method's call with one plain argument, written on one line -/
theorem ev_meth1 {o e : Expr} {name : Str} {apos pos : Pos} {env : Env} (hp : (apos.endLine == pos.line) = true) (hs : starEach [e] env = [(false, eval e env)]) :
    eval (.Call (.Attribute o name apos) [e] [] pos) env = (do
      let ov ← attributeBase o name env (eval o env)
      standAt apos.atName
      let (f, first) ← holding [ov] (getMethod ov name (do return (← importBound o env).getD true))
      callWith pos f first (backTo pos (starEach [e] env)) []) := by
  show (do
    let ov ← attributeBase o name env (eval o env)
    standAt apos.atName
    methodCall o name apos pos env ov (1 + 0) (backTo pos (starEach [e] env)) (backToKw pos (keywordEach [] env))) = _
  have hb : methodCallForm (1 + 0) (backTo pos (starEach [e] env)) (backToKw pos (keywordEach [] env)) = true := by
    rw [hs]
    rfl
  unfold methodCall
  rw [hb]
  have hpos : methodCallPos true o env apos pos = pure pos := by
    unfold methodCallPos
    rw [hp]
    rfl
  rw [hpos]
  rfl
/-- what __init__ leaves of a fresh exception at x -/
structure InitEnd (h h' : Heap) (x C dx t1 : Addr) (y : Str) (v : Value) : Prop where
  keep : ∀ b o, b ≠ x → h.get? b = some o → h'.get? b = some o
  obj : h'.get? x = some { cls := .ref C, dict := some dx, data := .fields #[.ref t1, .none, .none, .none, .bool false, .none] }
  dbig : h.objs.size ≤ dx
  dne : dx ≠ x
  ns : h'.Ns1 dx (fun z => if z = y then some v else none)

section
variable {prog : Program} {w : World} {A : Around} {E : Value → Shared → Prop} {R : Result → Shared → Prop} {s : Shared} {K : Frag} {mg : Str → Option Value} {C fI : Addr} {y : Str}
/-- the wrapper ValueError.__init__ of x, called: the args are laid anew -/
theorem call_wrap {u x t0 : Addr} {rest : List Value} {h : Heap} {g : Array GenState} {d : Drawn} {t : Nat} {os : OsState} {Q : Value → Shared → Prop}
    {nm q : Str} {N : Addr} {bs bm : List Value} {hdct : Bool} {sn : List Str} {sub : List Value} {ab : Bool} {col : Option Bool} {dd : Option Addr} {k0 k1 k2 k3 k5 : Option Value}
    (hC : h.get? C = some (excClassObj nm q C N bs bm hdct sn sub ab col dd k0 k1 k2 k3 k5 "ValueError.__new__")) (hx : h.get? x = some (excO C t0)) (hu : h.get? u = some (kxs_mw "ValueError.__init__" x)) (hz : rest.length ≤ sizeLine)
    (hq : ∀ h' t1, (∀ b o, b ≠ x → h.get? b = some o → h'.get? b = some o) → h'.get? x = some (excO C t1) → Q .none ⟨h', g, d, t, os⟩) :
    wpAny (model prog w) A (call (.ref u) rest) Q E ⟨h, g, d, t, os⟩ := by
  have FB := PySem.F.excBase_ValueError
  refine wpAny_call (codeAny_of_tree ?_)
  show wpAny _ A.in1 (callAny (.ref u) ⟨rest, []⟩) _ _ _
  simp only [callAny]
  refine wpAny_bind (wpAny_load hu ?_)
  simp only [kxs_mw, show (Value.type "method-wrapper" == Value.type "method" || Value.type "method-wrapper" == Value.type "builtin_function_or_method" || Value.type "method-wrapper" == Value.type "method-wrapper") = true by decide, if_true]
  refine KFB.if_so (by decide) ?_
  refine wpAny_bind (check_bound_init FB.toExcCallFacts hC hx rfl ?_)
  refine wpAny_bind (wpAny_pure (wpAny_pure ?_))
  refine ⟨plainId_quiet FB.init.plain _, codeAny_builtin FB.initEntry ?_⟩
  exact exc_init_tree (cls := .ref C) (t0 := t0) (dv := none) (c2 := .none) (c3 := .none) (b4 := .bool false) hx hz fun h' k e _ => hq h' _ k e

theorem sx_init (T : XTxt K prog y C fI) {x t0 : Addr} {v : Value} (X : K.In s.heap) (G : s.heap.Ns mainGlobals mg) (B : ∃ mb, s.heap.Ns builtinsNs mb ∧ ∀ z : Str, z ≠ "__name__" → mb z = bootBuiltins z) (hlim : s.heap.NoLimit)
    (hx : s.heap.get? x = some (excO C t0)) (hnx : K.lookup x = none) (hroom : A.depth < recursionLimit) {ar : Args} (har : ar = ⟨[.ref x, v], []⟩ ∨ ar = ⟨[.ref x], [(y, v)]⟩)
    (hq : ∀ h' tk dx t1, InitEnd s.heap h' x C dx t1 y v → R (.ok (.ret .none)) { s with heap := h', toks := tk }) :
    codeAny (model prog w) A (.call (.ref fI) ar) R s := by
  obtain ⟨oc, od, qual, doc, pm, an, cda, cc, ct, osl, p1, p2, q1, q2, q3, q4, q5, q6, q7, q8, q9, q10, ho, hcd, ⟨ccl, cdd, vs, ccs, file, tf, hcode, hvs, hfile⟩, hpos, ⟨cl, cld, csl, hcell⟩⟩ := T.fn
  obtain ⟨nm, q, N, bs, bm, sn, sub, ab, col, dd, k0, k1, k2, k3, k5, hC, hbm, hal⟩ := T.cls
  have hcl : clsIn K C = some { name := nm, bases := bs, mro := .ref C :: bm, ns := N, qualname := q, hasDict := true, slotNames := sn, subclasses := sub, abstract := ab, collection := col, hasDel := false } := by unfold clsIn; rw [hC] <;> rfl
  have yo := T.yok
  have e1 : (y == ("self" : Str)) = false := by simpa using yo.nself
  have e2 : (("self" : Str) == y) = false := by simpa using (fun z : ("self" : Str) = y => yo.nself z.symm)
  have ey : (iScope y).names.lookup y = some .local := by
    show (match y == ("self" : Str) with | true => some NameKind.local | false => List.lookup y [(y, NameKind.local), (PySem.Str.ofString "__class__", .free), (PySem.Str.ofString "super", .globalImplicit)]) = _
    rw [e1]
    simp [List.lookup]
  refine ks_codeAny_call_defAt (fd := ksFn "__init__" qual (iArgs y p1 p2) [iSup y q1 q2 q3 q4 q5 q6, iSet y q7 q8 q9 q10] (iScope y) .none .none doc pm an (.ref cda) ct cc) (body := [iSup y q1 q2 q3 q4 q5 q6, iSet y q7 q8 q9 q10]) (binds := [("self", .ref x), (y, v)]) hroom (X _ _ ho) rfl hlim (codeRec_of X hcd) rfl (.of_eq (by rcases har with rfl | rfl; exact yo.bd _ _ _ _ _ _ _ _ _ _ _ _; exact yo.bk _ _ _ _ _ _ _ _ _ _ _ _)) ?_ ?_ (fun h₁ hns hk₁ => ?_) rfl rfl rfl
  · intro z hz
    simp only [ksFn, iScope] at hz
    rcases List.mem_cons.mp hz with rfl | hz
    · decide
    rcases List.mem_cons.mp hz with rfl | hz
    · intro z
      cases z
    rcases List.mem_cons.mp hz with rfl | hz
    · decide
    rcases List.mem_cons.mp hz with rfl | hz
    · decide
    cases hz
  · intro z hz
    rcases List.mem_cons.mp hz with rfl | hz
    · rfl
    rcases List.mem_cons.mp hz with rfl | hz
    · exact ey
    cases hz
  · have X₁ : K.In h₁ := X.keeps hk₁
    have hx₁ := hk₁ _ _ hx
    have eC : (("__class__" : Str) == y) = false := by simpa using (fun z : ("__class__" : Str) = y => yo.nclass z.symm)
    have eS : (("super" : Str) == y) = false := by simpa using (fun z : ("super" : Str) = y => yo.nsuper z.symm)
    have kS : (iScope y).names.lookup ("super" : Str) = some .globalImplicit := by
      show (match ("super" : Str) == y with | true => some NameKind.local | false => some NameKind.globalImplicit) = _
      rw [eS]
    have kC : (iScope y).names.lookup ("__class__" : Str) = some .free := by
      show (match ("__class__" : Str) == y with | true => some NameKind.local | false => some NameKind.free) = _
      rw [eC]
    have mS : ([(("self" : Str), Value.ref x), (y, v)].reverse.lookup ("self" : Str)) = some (.ref x) := by
      show (match ("self" : Str) == y with | true => some v | false => some (Value.ref x)) = _
      rw [e2]
    have mY : ([(("self" : Str), Value.ref x), (y, v)].reverse.lookup y) = some v := by
      show (match y == y with | true => some v | false => _) = _
      simp
    have mroE : (((.ref C :: bm : List Value).dropWhile (· != .ref C)).drop 1) = bm := by simp [List.dropWhile_cons]
    obtain ⟨mb, hb1, hb2⟩ := B
    have hxL : x ≠ s.heap.objs.size := Nat.ne_of_lt (Heap.lt_size hx)
    have hxC : x ≠ C := fun z => by rw [z, hC] at hnx; cases hnx
    have hself := hC
    have I₁ : PySem.W.InstAt h₁ x (excO C t0) C none := ⟨hx₁, rfl, rfl, trivial⟩
    show _root_.PySem.wpAt (model prog w) (A.deeper (ksEnv qual (iScope y) s.heap.objs.size fI (.ref cda) cc)) (.func [iSup y q1 q2 q3 q4 q5 q6, iSet y q7 q8 q9 q10] (ksEnv qual (iScope y) s.heap.objs.size fI (.ref cda) cc))
      (execs [iSup y q1 q2 q3 q4 q5 q6, iSet y q7 q8 q9 q10] (ksEnv qual (iScope y) s.heap.objs.size fI (.ref cda) cc)) _ _ _
    refine ks_wpAt_execs_cons ?_
    refine ks_wpAt_Expr_any ?_
    refine ks_wpAt_MethodCall ?_ (ev_meth1 hpos rfl)
    refine ks_wpAt_super_base (env := ksEnv qual (iScope y) s.heap.objs.size fI (.ref cda) cc) kS kC (by decide) rfl (X₁ _ _ ho) rfl rfl rfl (X₁ _ _ hcode) rfl hvs hfile T.top ?_
    refine ks_loadName_global rfl kS (loadGlobal_builtin (env := ksEnv qual (iScope y) s.heap.objs.size fI (.ref cda) cc) (G.keeps hk₁) (mg_none_of X G T.su) (hb1.keeps hk₁) ((hb2 _ (by decide)).trans (by first | rfl | decide +kernel | kernel_rfl)) ⟨rfl, ?_⟩)
    refine wpAny_loadName_free rfl kC rfl ⟨_, X₁ _ _ hcell, rfl⟩ ?_
    refine wpAny_loadName_local rfl (by rfl) hns mS ?_
    refine ks_wpAny_isType_cls (X₁ _ _ hC) rfl ⟨rfl, ?_⟩
    refine ks_wpAny_call_super (X₁ _ _ hC) rfl hx₁ rfl (fun c e => by cases e) (looks_mroIn X₁ (by unfold mroIn; rw [hcl]; simp)) (fun h₂ hso k₂ => ?_)
    have X₂ : K.In h₂ := X₁.keeps k₂
    have hx₂ := k₂ _ _ hx₁
    have hns₂ : h₂.Ns s.heap.objs.size (fun z => ([(("self" : Str), Value.ref x), (y, v)] : List (Str × Value)).reverse.lookup z) := hns.at fun o e => k₂ _ o e
    have I₂ : PySem.W.InstAt h₂ x (excO C t0) C none := ⟨hx₂, rfl, rfl, trivial⟩
    have hve : mroIn K C (.type "ValueError") = some true := by
      have e0 : (Value.ref C :: bm).contains (.type "ValueError") = true := (List.contains_cons ..).trans (by rw [refsVE_contains "ValueError" _ hbm]; show (false || veTail.contains (Value.type "ValueError")) = true; decide +kernel)
      unfold mroIn
      rw [hcl, Option.bind_some, if_neg (by simp), e0]
    refine kxs_getMethod kxs_ValueError hso (looks_opaque X₂ T.th) (l₀ := .ref C :: bm) (l := bm) (fun A Q E s k q => wpAny_bind ((looks_clsIn X₂ hcl) A _ E s k (wpAny_pure q))) mroE X₂ hal (I₂.type.andThen (looks_mroIn X₂ hve)) hxC (by decide) ?_
    have hu : (h₂.push (kxs_mw "ValueError.__init__" x)).get? h₂.objs.size = some (kxs_mw "ValueError.__init__" x) := Heap.get?_push_size _ rfl
    have k₃ : ∀ b o, h₂.get? b = some o → (h₂.push (kxs_mw "ValueError.__init__" x)).get? b = some o := fun b o e => Heap.get?_push_of_some _ e
    refine kxs_callWith (i := "ValueError.__init__") (x := x) rfl (evalArgs_plain ?_)
    refine Calls.spliced_cons (wpAny_Name (wpAny_loadName_local rfl ey (hns₂.at fun o e => k₃ _ o e) mY ?_) yo.ndebug)
    refine Calls.spliced_nil ⟨hu, ?_⟩
    refine call_wrap (X₂.keeps k₃ _ _ hC) (k₃ _ _ hx₂) hu (by show 1 ≤ sizeLine; decide) fun h₄ t1 k₄ hx₄ => ?_
    have kx : ∀ b o, b ≠ x → s.heap.get? b = some o → h₄.get? b = some o := fun b o hb e => k₄ b o hb (k₃ b o (k₂ b o (hk₁ b o e)))
    have X₄ : K.In h₄ := fun a o e => by
      have hax : a ≠ x := fun z => by rw [z, hnx] at e; cases e
      exact kx a o hax (X a o e)
    have hns₄ : h₄.Ns s.heap.objs.size (fun z => ([(("self" : Str), Value.ref x), (y, v)] : List (Str × Value)).reverse.lookup z) := hns₂.at fun o e => k₄ _ o (Ne.symm hxL) (k₃ _ o e)
    refine wpAt_of_wpAny ?_
    refine wpAny_execs_cons (plainObj_wpAny_Assign_Attribute ?_)
    refine wpAny_Name (wpAny_loadName_local rfl ey hns₄ mY ?_) yo.ndebug
    refine wpAny_Name (wpAny_loadName_local rfl (by rfl) hns₄ mS ?_) (by decide)
    refine set_plain X₄ (ox := excO C t1) (od := none) ⟨hx₄, rfl, rfl, trivial⟩ T.sa ?_
    refine exc_osa X₄ hx₄ hcl (show refsVE (.ref C :: bm) = true from hbm) rfl T.noY (fun h₅ tk₅ dx k₅ dn dne hx₅ hn₅ => ?_)
    have z : s.heap.objs.size ≤ h₄.objs.size := Nat.le_of_lt hns₄.lt
    exact wpAny_execs_nil (hq h₅ tk₅ dx t1 ⟨fun b o hb e => k₅ b o hb (kx b o hb e), hx₅, Nat.le_trans z dn, dne, hn₅⟩)

/-- a made one -/
structure Made (h h' : Heap) (e C d : Addr) (y : Str) (v : Value) : Prop where
  keep : ∀ b o, h.get? b = some o → h'.get? b = some o
  new : h.objs.size ≤ e
  obj : ∃ t1 : Addr, h'.get? e = some ({ cls := .ref C, dict := some d, data := .fields #[.ref t1, .none, .none, .none, .bool false, .none] } : Obj)
  dbig : h.objs.size ≤ d
  dne : d ≠ e
  ns : h'.Ns1 d (fun z => if z = y then some v else none)
theorem one_size (v : Value) : [v].length ≤ sizeLine := by
  rw [sizeLine_eq]
  exact (by decide : 1 ≤ 16777216)
theorem sx_made (T : XTxt K prog y C fI) {v : Value} (X : K.In s.heap) (G : s.heap.Ns mainGlobals mg) (B : ∃ mb, s.heap.Ns builtinsNs mb ∧ ∀ z : Str, z ≠ "__name__" → mb z = bootBuiltins z) (hlim : s.heap.NoLimit) (hroom : A.depth + 1 < recursionLimit)
    (hq : ∀ h' tk e d, Made s.heap h' e C d y v → R (.ok (.ret (.ref e))) { s with heap := h', toks := tk }) :
    codeAny (model prog w) A (.call (.ref C) ⟨[v], []⟩) R s := by
  obtain ⟨nm, q, N, bs, bm, sn, sub, ab, col, dd, k0, k1, k2, k3, k5, hC, hbm, hal⟩ := T.cls
  obtain ⟨hp, g, dr, tk, os⟩ := s
  have k : ∀ b o, hp.get? b = some o → ((hp.push (kdv_tup [v])).push (excO C hp.objs.size)).get? b = some o := fun b o e => Heap.get?_push_of_some _ (Heap.get?_push_of_some _ e)
  have hget : ((hp.push (kdv_tup [v])).push (excO C hp.objs.size)).get? (hp.objs.size + 1) = some (excO C hp.objs.size) := by heap_get
  have hnx : K.lookup (hp.objs.size + 1) = none := by
    cases e : K.lookup (hp.objs.size + 1) with
    | none => rfl
    | some o =>
      have z : hp.get? (hp.objs.size + 1) = some o := X _ _ e
      exact absurd (Nat.lt_of_succ_lt (Heap.lt_size z)) (Nat.lt_irrefl _)
  obtain ⟨mb, hb1, hb2⟩ := B
  refine call_own PySem.F.excBase_ValueError (fun X => refsVE_contains X bm hbm) (X _ _ hC) (looks_findIn X T.iC) (fun self => bind_fn X self T.tC) (one_size v) ?_
  refine sx_init (s := ⟨(hp.push (kdv_tup [v])).push (excO C hp.objs.size), g, dr, tk, os⟩) T (X.keeps k) (G.keeps k) ⟨mb, hb1.keeps k, hb2⟩ (hlim.keeps k) hget hnx ?_ (.inl rfl) fun h' tk' dx t1 ⟨k', hx, dn, dne, hns⟩ => ?_
  · show A.depth + 1 < recursionLimit
    exact hroom
  · have old : ∀ b o, hp.get? b = some o → h'.get? b = some o := fun b o e => k' b o (Nat.ne_of_lt (Nat.lt_succ_of_lt (Heap.lt_size e))) (k b o e)
    have z : hp.objs.size + 1 + 1 ≤ dx := by
      have q := dn
      rw [Heap.size_push, Heap.size_push] at q
      exact q
    exact ⟨rfl, hq h' tk' (hp.objs.size + 1) dx ⟨old, Nat.le_succ _, ⟨t1, hx⟩, Nat.le_trans (Nat.le_trans (Nat.le_succ _) (Nat.le_succ _)) z, dne, hns⟩⟩
end
end Sx
namespace L2
open PySem PySem.Spec PyProof.Rows
theorem relO_y {y : Str} {v : V} {v' : Value} (r : RelV v v') (f : Str) : RelO (List.lookup f [(y, v)]) (if f = y then some v' else none) := by
  by_cases hw : f = y
  · subst hw
    rw [if_pos rfl]
    have q : List.lookup f [(f, v)] = some v := by simp [List.lookup]
    rw [q]
    exact r
  · rw [if_neg hw]
    have qw : (f == y) = false := by simpa using hw
    have q2 : List.lookup f [(y, v)] = none := by simp [List.lookup, qw]
    rw [q2]
    trivial
section
variable {X : Cx} {C fI : Addr} {y x : Str}
/-- the state with a new exception e of C, its field y holding v in its dict d -/
def putX (H : Hp) (e d C : Addr) (y : Str) (v : V) : Hp := upd (upd H d (.xd [(y, v)])) e (exo e C (some d))
theorem sx_laid {pins : List (Addr × Obj)} {σ : St} {H : Hp} {hp h' : Heap} {g : Array GenState} {dr : Drawn} {tk tk' : Nat} {os : OsState} {e d : Addr} {v : V} {v' : Value} (I : Inv X pins σ H ⟨hp, g, dr, tk, os⟩) (rv : RelV v v') (M : Sx.Made hp h' e C d y v') :
    Inv X pins σ (putX H e d C y v) ⟨h', g, dr, tk', os⟩ ∧ H e = none ∧ H d = none ∧ d ≠ e := by
  obtain ⟨t1, hoe⟩ := M.obj
  obtain ⟨G', g1, g2⟩ := restrict h' fun b => decide (b ≠ e)
  have gk : ∀ b, b ≠ e → G'.get? b = h'.get? b := fun b hb => g1 b (decide_eq_true hb)
  have ge : G'.get? e = none := g2 e (by simp)
  have old : ∀ b o, hp.get? b = some o → G'.get? b = some o := fun b o q => (gk b (Nat.ne_of_lt (Nat.lt_of_lt_of_le (Heap.lt_size q) M.new))).trans (M.keep b o q)
  have ob : ObjOk X.prog X.w (upd H d (.xd [(y, v)])) G' d (.xd [(y, v)]) := ⟨_, M.ns.at (fun o q => (gk d M.dne).trans q), fun f => relO_y rv f⟩
  have J : Inv X pins σ (upd H d (.xd [(y, v)])) ⟨G', g, dr, tk', os⟩ := I.laid (t' := tk') old M.dbig ob
  have hd := I.hok.fresh M.dbig
  have he := I.hok.fresh M.new
  have hn : (upd H d (.xd [(y, v)])) e = none := by rw [upd_ne (Ne.symm M.dne)]; exact he
  have J2 : Inv X pins σ (upd (upd H d (.xd [(y, v)])) e (exo e C (some d))) ⟨h', g, dr, tk', os⟩ := J.laidN (h' := h') (t' := tk') (fun b o q => (gk b (fun z => by rw [z] at q; have q' : G'.get? e = some o := q; rw [ge] at q'; cases q')).symm.trans q) ge hn (exo_ok hoe)
  exact ⟨J2, he, hd, M.dne⟩
/-- C(a) -/
def tMkX (C : Addr) (y : Str) (ta : TA) : TE := fun σ H Q => ta σ H fun vs H1 => ∃ v, vs = [v] ∧ ∀ e d, H1 e = none → H1 d = none → d ≠ e → Q (.ref e) (putX H1 e d C y v)
theorem pe_sx {a : Expr} {ta : TA} {p pos : Pos} {k : Nat} (T : Sx.XTxt X.K X.prog y C fI) (hr : Room (k + 1) X.A) (hm : X.mg x = some (.ref C)) (ha : PA X [a] ta) (hg : Gl X x := by rfl)
    (he : starEach (a :: []) X.env = (false, eval a X.env) :: starEach [] X.env := by rfl) (hpl : (backTo pos (starEach [] X.env)).any (·.1) = false := by rfl) (hdb : (x == ("__debug__" : Str)) = false := by decide) :
    PE X (.Call (.Name x p) [a] [] pos) (tMkX C y ta) := by
  refine ⟨fun pins s σ H Q I h => ?_⟩
  refine wpAny_Call_Name_kw (ld_glob I hg hm ?_ hdb)
  refine PySem.W.callWith_K (h₀ := X.base) I.ok.mod.kin T.kC (thn (ha.run pos pins s σ H _ I h) fun us s1 hh => ?_) he hpl
  obtain ⟨vs, H1, I1, r1, v, ev, q1⟩ := hh
  subst ev
  refine ⟨I1.kIn, ?_⟩
  cases r1 with
  | cons rv rn =>
    rename_i v' us'
    cases rn
    show wpAny _ _ (call (.ref C) [v']) _ _ _
    have hlim := I1.nolimit
    obtain ⟨mb, h1, h2⟩ := I1.mod.blt
    have G := I1.mod.glob.keeps I1.bk
    have B := h1.keeps I1.bk
    have KI := I1.kIn
    obtain ⟨hp, g, dr, tk, os⟩ := s1
    refine wpAny_call (Sx.sx_made T KI G ⟨mb, B, h2⟩ hlim (by have := hr.dp; omega) fun h' tk' e d M => ?_)
    obtain ⟨J, e1, e2, e3⟩ := sx_laid (tk' := tk') I1 rv M
    exact ⟨.ref e, _, J, rfl, q1 e d e1 e2 e3⟩
end
end L2
/-! The same, made by a call with one keyword: C(y = a). -/
namespace Sx
section
open PySem PySem.Spec PySem.HandSPX Builtin
section
variable {M : Model} {A : Around} {E : Value → Shared → Prop} {h : Heap} {g : Array GenState} {d : Drawn} {t : Nat} {os : OsState}
variable {nm q : Str} {C N : Addr} {bs bm bmB : List Value} {hdct : Bool} {sn : List Str} {sub : List Value} {ab : Bool} {col : Option Bool} {dd : Option Addr} {k0 k1 k2 k3 k5 : Option Value} {B newId initId : String}
theorem kw_check_type {M : Model} {kw : List (Str × Value)} {Q : Unit → Shared → Prop} (hC : h.get? C = some (excClassObj nm q C N bs bm hdct sn sub ab col dd k0 k1 k2 k3 k5 newId))
    (hq : Q () ⟨h, g, d, t, os⟩) : wpAny M A (checkBuiltinCall "type.__call__" ⟨[.ref C], kw⟩) Q E ⟨h, g, d, t, os⟩ := by
  have f3 := tc_sub
  have hT : (⟨h, g, d, t, os⟩ : Shared).TypeIs (.ref C) "type" := ⟨_, hC, rfl⟩
  simp only [checkBuiltinCall, tc_kind, tc_split]
  repeat (any_goals (first | assumption | with_reducible refine wpAny_loadPart_at hC ?_ | with_reducible refine wpAny_onRaise ?_ | with_reducible refine wpAny_map ?_ | wp_step))
theorem kw_check_new (F : ExcBaseFacts B newId initId bmB) (hT : ∀ X : String, bm.contains (.type X) = bmB.contains (.type X)) {y : Str} {v : Value} {Q : Unit → Shared → Prop}
    (hC : h.get? C = some (excClassObj nm q C N bs bm hdct sn sub ab col dd k0 k1 k2 k3 k5 newId)) (hq : Q () ⟨h, g, d, t, os⟩) : wpAny M A (checkBuiltinCall newId ⟨[.ref C], [(y, v)]⟩) Q E ⟨h, g, d, t, os⟩ := by
  have hcont : (Value.ref C :: bm).contains (.type B) = true := by rw [List.contains_cons, hT, F.hasB, Bool.or_true]
  have hstar := F.noStar
  simp only [checkBuiltinCall, F.newKind, F.newSplit, F.newRow]
  repeat (first | refine wpAny_loadPart_at hC ?_ | (refine wpAny_isSubtype_exc hC ?_; rw [hcont]) | refine wpAny_staticBase_exc hC ?_ | refine wpAny_madeBy_exc hC ?_ | simp only [bne_self_eq_false, Bool.false_eq_true, if_false] | wp_step)
  exact hq
end
section
variable {prog : Program} {w : World} {A : Around} {E : Value → Shared → Prop} {R : Result → Shared → Prop} {h : Heap} {g : Array GenState} {d : Drawn} {t : Nat} {os : OsState}
variable {nm q : Str} {C N : Addr} {bs bm bmB : List Value} {hdct : Bool} {sn : List Str} {sub : List Value} {ab : Bool} {col : Option Bool} {dd : Option Addr} {k0 k1 k2 k3 k5 : Option Value} {B newId initId : String}

theorem kw_new (F : ExcBaseFacts B newId initId bmB) (hT : ∀ X : String, bm.contains (.type X) = bmB.contains (.type X)) {y : Str} {v : Value}
    (hC : h.get? C = some (excClassObj nm q C N bs bm hdct sn sub ab col dd k0 k1 k2 k3 k5 newId))
    (hq : R (.ok (.ret (.ref (h.objs.size + 1)))) ⟨(h.push (W.kdv_tup [])).push (excO C h.objs.size), g, d, t, os⟩) :
    codeAny (model prog w) A (.builtin newId ⟨[.ref C], [(y, v)]⟩) R ⟨h, g, d, t, os⟩ := by
  have hends := F.ends
  have hrest : ([] : List Value).length ≤ sizeLine := Nat.zero_le _
  have hcB : (Value.ref C :: bm).contains (.type B) = true := by rw [List.contains_cons, hT, F.hasB, Bool.or_true]
  have hcA : (Value.ref C :: bm).contains (.type "AttributeError") = false := by rw [List.contains_cons, hT, F.noAttr]; rfl
  have hcN : (Value.ref C :: bm).contains (.type "NameError") = false := by rw [List.contains_cons, hT, F.noName]; rfl
  refine codeAny_builtinAt F.entry ?_
  unfold Builtin.«BaseException.__new__»
  refine wpAt_bind ?_
  show wpAt _ _ _ (stack >>= _) _ _ _
  refine wpAt_bind (wpAt_stack fun p below => wpAt_of_wpAny ?_)
  wp_walk
  refine wpAt_of_wpAny ?_
  rw [F.owner]
  repeat (first | with_reducible refine wpAny_madeHere_exc F.canon hC ?_ | with_reducible refine wpAny_loadPart_at hC ?_ | (with_reducible refine wpAny_isSubtype_exc hC ?_; first | rw [hcB] | rw [hcA] | rw [hcN]) | wp_step)
  show R _ _
  rw [Heap.size_push]
  exact hq
theorem kw_type_call (F : ExcBaseFacts B newId initId bmB) (hT : ∀ X : String, bm.contains (.type X) = bmB.contains (.type X)) {y : Str} {v : Value} {fI : Addr} {Q : Fin → Shared → Prop}
    (hC : h.get? C = some (excClassObj nm q C N bs bm hdct sn sub ab col dd k0 k1 k2 k3 k5 newId))
    (hi : W.Looks (model prog w) h (typeLookup (.ref C) "__init__") (some (.ref fI))) (hb : ∀ self, W.Looks (model prog w) h (bindSpecial (.ref fI) self) (.ref fI, [self]))
    (hq : codeAny (model prog w) A (.call (.ref fI) ⟨[.ref (h.objs.size + 1)], [(y, v)]⟩)
      (fun r s' => match r with | .ok (.ret v) => v = .none ∧ Q (.done (.ret (.ref (h.objs.size + 1)))) s' | .ok _ => False | .error e => E e s')
      ⟨(h.push (W.kdv_tup [])).push (excO C h.objs.size), g, d, t, os⟩) :
    wpAny (model prog w) A (Builtin.«type.__call__» ⟨[.ref C], [(y, v)]⟩) Q E ⟨h, g, d, t, os⟩ := by
  repeat (first | with_reducible refine wpAny_loadPart_at hC ?_ | with_reducible refine wpAny_madeBy_exc hC ?_ | wp_step)
  refine codeAny_call_builtin_code (Code.quiet_builtin _ F.quiet) (kw_check_new F hT hC ?_)
  refine kw_new F hT hC ?_
  show wpAny _ _ _ _ _ _
  have k : ∀ b o, h.get? b = some o → ((h.push (W.kdv_tup [])).push (excO C h.objs.size)).get? b = some o := fun b o e => Heap.get?_push_of_some _ (Heap.get?_push_of_some _ e)
  have hC₁ := k _ _ hC
  have hget : ((h.push (W.kdv_tup [])).push (excO C h.objs.size)).get? (h.objs.size + 1) = some (excO C h.objs.size) := by heap_get
  have hcC : (Value.ref C :: bm).contains (.ref C) = true := by simp
  have i1 := hi.keeps k
  have b1 := (hb (.ref (h.objs.size + 1))).keeps k
  unfold isInstance
  repeat (first | with_reducible refine wpAny_loadPart_at hget ?_ | (with_reducible refine wpAny_isSubtype_exc hC₁ ?_; rw [hcC]) | wp_step)
  show wpAny _ _ (typeLookup (.ref C) _) _ _ _
  refine i1.at ?_
  refine wpAny_holding (wpAny_bind (b1.at ?_))
  refine wpAny_bind (wpAny_call (codeAny_mono hq fun r s' z => ?_))
  rcases r with e | (v | _ | _ | _) <;> first | exact z | exact z.elim | skip
  obtain ⟨rfl, z⟩ := z
  first
    | exact wpAny_pure (wpAny_pure z)
    | (wp_walk; exact z)
theorem kw_call (F : ExcBaseFacts B newId initId bmB) (hT : ∀ X : String, bm.contains (.type X) = bmB.contains (.type X)) {y : Str} {v : Value} {fI : Addr}
    (hC : h.get? C = some (excClassObj nm q C N bs bm hdct sn sub ab col dd k0 k1 k2 k3 k5 newId))
    (hi : W.Looks (model prog w) h (typeLookup (.ref C) "__init__") (some (.ref fI))) (hb : ∀ self, W.Looks (model prog w) h (bindSpecial (.ref fI) self) (.ref fI, [self]))
    (hq : codeAny (model prog w) (A.under (.builtin "type.__call__" ⟨[.ref C], [(y, v)]⟩)) (.call (.ref fI) ⟨[.ref (h.objs.size + 1)], [(y, v)]⟩) (W.InitBack (h.objs.size + 1) R)
      ⟨(h.push (W.kdv_tup [])).push (excO C h.objs.size), g, d, t, os⟩) :
    codeAny (model prog w) A (.call (.ref C) ⟨[], [(y, v)]⟩) R ⟨h, g, d, t, os⟩ := by
  have f1 := tc_lookup
  have f2 := tc_bind (.ref C)
  have hTy : (⟨h, g, d, t, os⟩ : Shared).TypeIs (.ref C) "type" := ⟨_, hC, rfl⟩
  refine codeAny_of_tree ?_
  show wpAny _ _ (callAny (.ref C) _) _ _ _
  repeat (any_goals (first | assumption | with_reducible refine wpAny_loadPart_at hC ?_ | wp_step))
  refine ⟨rfl, ?_⟩
  refine codeAny_call_builtin_at (Code.quiet_builtin _ (by decide +kernel)) entry_typeCall (kw_check_type hC (kw_type_call F hT hC hi hb ?_))
  refine codeAny_mono hq fun r s' z => ?_
  rcases r with e | (v | _ | _ | _) <;> exact z
end
end
open PySem PySem.Spec PySem.W PySem.Calls PyProof.Rows PySem.HandSPX
section
variable {prog : Program} {w : World} {A : Around} {E : Value → Shared → Prop} {R : Result → Shared → Prop} {s : Shared} {K : Frag} {mg : Str → Option Value} {C fI : Addr} {y : Str}
theorem sx_madeK (T : XTxt K prog y C fI) {v : Value} (X : K.In s.heap) (G : s.heap.Ns mainGlobals mg) (B : ∃ mb, s.heap.Ns builtinsNs mb ∧ ∀ z : Str, z ≠ "__name__" → mb z = bootBuiltins z) (hlim : s.heap.NoLimit) (hroom : A.depth + 1 < recursionLimit)
    (hq : ∀ h' tk e d, Made s.heap h' e C d y v → R (.ok (.ret (.ref e))) { s with heap := h', toks := tk }) :
    codeAny (model prog w) A (.call (.ref C) ⟨[], [(y, v)]⟩) R s := by
  obtain ⟨nm, q, N, bs, bm, sn, sub, ab, col, dd, k0, k1, k2, k3, k5, hC, hbm, hal⟩ := T.cls
  obtain ⟨hp, g, dr, tk, os⟩ := s
  have k : ∀ b o, hp.get? b = some o → ((hp.push (kdv_tup [])).push (excO C hp.objs.size)).get? b = some o := fun b o e => Heap.get?_push_of_some _ (Heap.get?_push_of_some _ e)
  have hget : ((hp.push (kdv_tup [])).push (excO C hp.objs.size)).get? (hp.objs.size + 1) = some (excO C hp.objs.size) := by heap_get
  have hnx : K.lookup (hp.objs.size + 1) = none := by
    cases e : K.lookup (hp.objs.size + 1) with
    | none => rfl
    | some o =>
      have z : hp.get? (hp.objs.size + 1) = some o := X _ _ e
      exact absurd (Nat.lt_of_succ_lt (Heap.lt_size z)) (Nat.lt_irrefl _)
  obtain ⟨mb, hb1, hb2⟩ := B
  refine kw_call PySem.F.excBase_ValueError (fun X => refsVE_contains X bm hbm) (X _ _ hC) (looks_findIn X T.iC) (fun self => bind_fn X self T.tC) ?_
  refine sx_init (s := ⟨(hp.push (kdv_tup [])).push (excO C hp.objs.size), g, dr, tk, os⟩) T (X.keeps k) (G.keeps k) ⟨mb, hb1.keeps k, hb2⟩ (hlim.keeps k) hget hnx ?_ (.inr rfl) fun h' tk' dx t1 ⟨k', hx, dn, dne, hns⟩ => ?_
  · show A.depth + 1 < recursionLimit
    exact hroom
  · have old : ∀ b o, hp.get? b = some o → h'.get? b = some o := fun b o e => k' b o (Nat.ne_of_lt (Nat.lt_succ_of_lt (Heap.lt_size e))) (k b o e)
    have z : hp.objs.size + 1 + 1 ≤ dx := by
      have q := dn
      rw [Heap.size_push, Heap.size_push] at q
      exact q
    exact ⟨rfl, hq h' tk' (hp.objs.size + 1) dx ⟨old, Nat.le_succ _, ⟨t1, hx⟩, Nat.le_trans (Nat.le_trans (Nat.le_succ _) (Nat.le_succ _)) z, dne, hns⟩⟩
end
end Sx
namespace L2
open PySem PySem.Spec PyProof.Rows
section
variable {X : Cx} {C fI : Addr} {y x : Str}
/-- C(y = a) -/
theorem pe_sxk {a : Expr} {ta : TA} {p pos kpos : Pos} {k : Nat} (T : Sx.XTxt X.K X.prog y C fI) (hr : Room (k + 1) X.A) (hm : X.mg x = some (.ref C)) (hkw : PK X [⟨some y, a, kpos⟩] ta) (hg : Gl X x := by rfl)
    (hall : (backToKw pos (keywordEach [⟨some y, a, kpos⟩] X.env)).all (·.1.isSome) = true := by rfl) (hks : (backToKw pos (keywordEach [⟨some y, a, kpos⟩] X.env)).filterMap (·.1) = [y] := by rfl)
    (hpl : ((backTo pos (starEach [] X.env)).any (·.1) || (backToKw pos (keywordEach [⟨some y, a, kpos⟩] X.env)).any (·.1.isNone)) = false := by rfl) (hdb : (x == ("__debug__" : Str)) = false := by decide) :
    PE X (.Call (.Name x p) [] [⟨some y, a, kpos⟩] pos) (tMkX C y ta) := by
  refine ⟨fun pins s σ H Q I h => ?_⟩
  refine wpAny_Call_Name_kw (ld_glob I hg hm ?_ hdb)
  refine PySem.W.callWith_KW0 (h₀ := X.base) I.ok.mod.kin T.kC hall (thn (hkw.run pos pins s σ H _ I h) fun us s1 hh => ?_) hpl
  obtain ⟨vs, H1, I1, r1, v, ev, q1⟩ := hh
  subst ev
  refine ⟨I1.kIn, ?_⟩
  cases r1 with
  | cons rv rn =>
    rename_i v' us'
    cases rn
    rw [hks]
    show wpAny _ _ (call (.ref C) [] [(y, v')]) _ _ _
    have hlim := I1.nolimit
    obtain ⟨mb, h1, h2⟩ := I1.mod.blt
    have G := I1.mod.glob.keeps I1.bk
    have B := h1.keeps I1.bk
    have KI := I1.kIn
    obtain ⟨hp, g, dr, tk, os⟩ := s1
    refine wpAny_call (Sx.sx_madeK T KI G ⟨mb, B, h2⟩ hlim (by have := hr.dp; omega) fun h' tk' e d M => ?_)
    obtain ⟨J, e1, e2, e3⟩ := sx_laid (tk' := tk') I1 rv M
    exact ⟨.ref e, _, J, rfl, q1 e d e1 e2 e3⟩
end
end L2
/-! Reads and isinstance of a held exception; C() of a class without an own __init__. -/
namespace Sx
open PySem PySem.Spec PySem.W PySem.Calls PyProof.Rows
section
variable {prog : Program} {w : World} {A : Around} {E : Value → Shared → Prop} {s : Shared} {K : Frag} {x D : Addr} {ox : Obj} {od : Option Obj}
theorem found_class (T : L2.ExcC K D) : findObj K D od "__class__" = some (.bind (.builtin "getset_descriptor.__get__") (.builtin "object.__class__")) := by
  obtain ⟨cd, hc, _⟩ := any_some T.hd
  show (clsIn K D).bind _ = _
  simp [hc, T.ha, T.hn, T.ht]
/-- x.__class__ of a held exception, whatever its dict -/
theorem class_of_exc {Q : Option Value → Shared → Prop} (T : L2.ExcC K D) (X : K.In s.heap) (I : InstAt s.heap x ox D od) (h : Q (some (.ref D)) { s with toks := s.toks + 1 }) : wpAny (model prog w) A (getAttr? (.ref x) "__class__") Q E s := by
  obtain ⟨hp, g, d, t, os⟩ := s
  have ty := I.type (M := model prog w)
  have ga := looks_findIn (M := model prog w) X T.hg
  have gt := looks_findIn (M := model prog w) X T.hk
  have fi := looks_find (M := model prog w) X I (found_class (od := od) T)
  have sb : Looks (model prog w) hp (isInstance (.ref x) (.type "BaseException")) true := ty.andThen (looks_subIn X T.hs)
  have n0 : (Value.builtin "BaseException.__getattribute__" == Value.builtin "object.__getattribute__") = false := by decide +kernel
  unfold getAttr? getAttrBy? getAttrBy
  refine wpAny_bind (wpAny_mkText (wpAny_bind (wpAny_attempt (wpAny_holding (wpAny_bind (ty.at (wpAny_bind (ga.at ?_))))))))
  show wpAny _ _ (if (onTheHeap (Value.ref D) && Value.builtin "BaseException.__getattribute__" == Value.builtin "object.__getattribute__") = true then _ else _) _ _ _
  rw [n0, Bool.and_false, if_neg Bool.false_ne_true]
  unfold getAttrByItsOwn hookBefore
  refine wpAny_bind ?_
  rw [if_pos (show onTheHeap (Value.ref D) = true from rfl)]
  refine gt.at (wpAny_bind (wpAny_attempt (wpAny_holding ?_)))
  unfold callGetattribute
  rw [show (false && onTheHeap (Value.builtin "BaseException.__getattribute__")) = false from rfl, if_neg Bool.false_ne_true]
  unfold boundAndCalled
  rw [PySem.F.excAttr_ValueError.ga.bind (.ref x)]
  refine wpAny_bind (wpAny_pure ?_)
  show wpAny _ _ (call (.builtin "BaseException.__getattribute__") [.ref x, .str "__class__" t]) _ _ _
  refine wpAny_call (codeAny_call_builtin PySem.F.excAttr_ValueError.ga.plain PySem.F.entry_bexc_ga ?_)
  refine @check_slot (model prog w) _ _ ⟨hp, g, d, t + 1, os⟩ "BaseException.__getattribute__" "BaseException" "__getattribute__" (.ref x) [.str "__class__" t] [] _ (by decide +kernel) (by decide +kernel) sb (PySem.F.args_bexc_ga (.ref x) (.str "__class__" t)) ?_
  unfold Builtin.«object.__getattribute__»
  refine wpAny_bind (wpAny_of_eq (a := ((Value.ref x : Value), [Value.str "__class__" t])) (by first | rfl | (simp only [slotArgs]; rfl)) ?_)
  refine wpAny_bind (wpAny_pure (wpAny_bind (ty.at (wpAny_bind (fi.at ?_)))))
  show wpAny _ _ (holding [Value.builtin "object.__class__"] (call (.builtin "getset_descriptor.__get__") [.builtin "object.__class__", .ref x, .ref D]) >>= ret) _ _ _
  refine wpAny_bind (wpAny_holding (wpAny_call (class_get (s := ⟨hp, g, d, t + 1, os⟩) (ox := ox) (od := od) X I T.hm ?_)))
  refine wpAny_pure ?_
  show wpAny _ _ (handedOut (.ref D)) _ _ _
  rw [handedOut_of (v := .ref D) rfl]
  first
    | exact wpAny_pure (wpAny_pure h)
    | exact wpAny_pure h
    | exact wpAny_pure (wpAny_bind (wpAny_pure (wpAny_pure h)))
/-- what isinstance asks of a held exception -/
theorem kit_exc (T : L2.ExcC K D) : KitX K (.ref x) (.ref D) (fun h => InstAt h x ox D od) where
  ty := fun _ _ _ I => I.type
  it := fun M h X _ => by
    obtain ⟨cd, hc, _⟩ := any_some T.hd
    unfold clsIn at hc
    split at hc
    · rename_i ho
      intro A0 Q0 E0 s0 k q
      unfold isType loadHead
      exact wpAny_bind (wpAny_loadPart (k _ _ (X _ _ ho)) (wpAny_pure q))
    · cases hc
  ne := fun h tp dd its n sl X htp => (handS_kitx_exc (x := x) (ox := ox) T.hg T.hk T.hs T.hd T.ha T.hn T.ht T.hm).ne h tp dd its n sl X htp
  ca := fun X I k => class_of_exc T X I k
end
end Sx
namespace L2
open PySem PySem.Spec PyProof.Rows
section
variable {X : Cx} {pins : List (Addr × Obj)} {σ : St} {H : Hp} {s : Shared} {a C : Addr} {d : Option Addr}
theorem exo_inst (I : Inv X pins σ H s) (e : H a = some (exo a C none)) : ∃ ox, PySem.W.InstAt s.heap a ox C none := by
  obtain ⟨t1, h⟩ := exo_at I.hok e
  exact ⟨_, h, rfl, rfl, trivial⟩
theorem exo_inst1 {dd : Addr} {fs : List (Str × V)} (I : Inv X pins σ H s) (e : H a = some (exo a C (some dd))) (ed : H dd = some (.xd fs)) :
    ∃ ox od, PySem.W.InstAt s.heap a ox C (some od) ∧ ∀ n v, fs.lookup n = some v → ∃ u, PySem.W.lookIn n od = some (some u) ∧ RelV v u := by
  obtain ⟨t1, h⟩ := exo_at I.hok e
  obtain ⟨mA, hns, hr⟩ := (show ObjOk X.prog X.w H s.heap dd (.xd fs) from I.hok dd _ ed)
  obtain ⟨od, ho, hl⟩ := lookIn_ns hns
  refine ⟨_, od, ⟨h, rfl, rfl, ho⟩, fun n v q => ?_⟩
  obtain ⟨u, hu, ru⟩ := RelO.some_of (v := v) (o := mA n) (by rw [← q]; exact hr n)
  exact ⟨u, by rw [hl, hu], ru⟩
/-- e.f, e a held exception -/
def tXo (K : PySem.W.Frag) (f : Str) (te : TE) : TE := fun σ H Q => te σ H fun x H1 => ∃ (a C dd : Addr) (fs : List (Str × V)) (v : V), x = .ref a ∧ H1 a = some (exo a C (some dd)) ∧ H1 dd = some (.xd fs) ∧ XfC K C ∧ PySem.W.findIn K (.ref C) f = some none ∧ fs.lookup f = some v ∧ Q v H1
theorem pe_xo {e : Expr} {te : TE} {pos : Pos} {n : Str} (he : PE X e te) (hb : attributeBase e n X.env (eval e X.env) = eval e X.env := by rfl) : PE X (.Attribute e n pos) (tXo X.K n te) := by
  refine ⟨fun pins s σ H Q I h => ?_⟩
  refine attr_of hb (thn (he.run pins s σ H _ I h) fun u s1 hh => ?_)
  obtain ⟨x, H1, I1, rx, a, C, dd, fs, v, ex, ea, ed, T, hno, l, q⟩ := hh
  subst ex
  obtain rfl : u = Value.ref a := rx
  obtain ⟨ox, od, J, hv⟩ := exo_inst1 I1 ea ed
  obtain ⟨u, hu, ru⟩ := hv n v l
  exact HandSPX.exc_get I1.kIn J T.ga T.gg T.exC (PySem.W.findObj_own T.hdC hno rfl hu) (handed_of ru) ⟨v, H1, I1.tok _, ru, q⟩
/-- a value's type: held exceptions, too -/
inductive TyW (K : PySem.W.Frag) (H : Hp) : V → Value → Prop where
  | base {x : V} {t : Value} (h : TyX K H x t) : TyW K H x t
  | exc {a D : Addr} (T : ExcC K D) (e : H a = some (exo a D none)) : TyW K H (.ref a) (.ref D)
  | excd {a D dd : Addr} {fs : List (Str × V)} (T : ExcC K D) (e : H a = some (exo a D (some dd))) (ed : H dd = some (.xd fs)) : TyW K H (.ref a) (.ref D)
theorem kit_ofW {x : V} {u t : Value} (I : Inv X pins σ H s) (rx : RelV x u) (ty : TyW X.K H x t) : ∃ P : Heap → Prop, PySem.W.KitX X.K u t P ∧ P s.heap ∧ u ≠ .builtin "__main__.__loader__#opaque" := by
  cases ty with
  | base h => exact kit_of I rx h
  | @exc a D T e =>
    cases (show u = Value.ref a from rx)
    obtain ⟨ox, J⟩ := exo_inst I e
    exact ⟨_, Sx.kit_exc (od := none) T, J, fun z => nomatch z⟩
  | @excd a D dd fs T e ed =>
    cases (show u = Value.ref a from rx)
    obtain ⟨ox, od, J, _⟩ := exo_inst1 I e ed
    exact ⟨_, Sx.kit_exc (od := some od) T, J, fun z => nomatch z⟩
/-- isinstance(x, c), one class -/
def rIsW (K : PySem.W.Frag) : List V → Hp → VK → Prop := fun xs H Q => ∃ (x c : V) (t u : Value) (b : Bool), xs = [x, c] ∧ ClsV c u ∧ TyW K H x t ∧ PySem.W.kitOne K t u = some b ∧ Q (.bl b) H
/-- isinstance(x, (c, ..)), the tuple just laid -/
def rIsWT (K : PySem.W.Frag) : List V → Hp → VK → Prop := fun xs H Q => ∃ (x : V) (tp : Addr) (cs : List V) (t : Value) (us : List Value) (b : Bool), xs = [x, .ref tp] ∧ H tp = some (.tup cs) ∧ Paired ClsV cs us ∧ TyW K H x t ∧ PySem.W.kitAny K t us = some b ∧ Q (.bl b) H
theorem call_isW : CallR X (.builtin "isinstance") (rIsW X.K) := by
  intro pins s σ H xs us Q I r ⟨x, c, t, u, b, ex, k, ty, e, q⟩
  subst ex
  obtain ⟨u1, u2, rfl, r1, r2⟩ := vals2 r
  obtain rfl := k.eq r2
  obtain ⟨P, Z, p, hx⟩ := kit_ofW I r1 ty
  exact PySem.W.kia_one Z I.kIn p e hx fun tk => ⟨.bl b, H, I.tok tk, rfl, q⟩
theorem call_isWT : CallR X (.builtin "isinstance") (rIsWT X.K) := by
  intro pins s σ H xs us Q I r ⟨x, tp, cs, t, ws, b, ex, hT, k, ty, e, q⟩
  subst ex
  obtain ⟨u1, u2, rfl, r1, r2⟩ := vals2 r
  cases (show u2 = Value.ref tp from r2)
  obtain ⟨P, Z, p, hx⟩ := kit_ofW I r1 ty
  obtain ⟨_, its, rv, o, h1, h2, n, h3⟩ := (show ObjOk X.prog X.w H s.heap tp (.tup cs) from I.hok tp _ hT)
  obtain rfl := ClsV.all k rv
  obtain ⟨oc, od, dt, sl⟩ := o
  simp only at h2 h3
  subst h2 h3
  exact PySem.W.kia_tup Z I.kIn p h1 e hx fun tk => ⟨.bl b, H, I.tok tk, rfl, q⟩
/-- C(), C an own exception class without an own __init__ -/
theorem pe_mk0 {bmB : List Value} {B newId initId : String} {x : Str} {p pos : Pos} (F : ExcBaseFacts B newId initId bmB) (q : PySem.W.excIn X.K C bmB newId = true) (gC : X.mg x = some (.ref C)) (kC : PySem.W.keepIn X.K (.ref C) = true) (hg : Gl X x := by rfl)
    (hdb : (x == ("__debug__" : Str)) = false := by decide) :
    PE X (.Call (.Name x p) [] [] pos) (fun σ H Q => ∀ a, H a = none → Q (.ref a) (upd H a (exo a C none))) := by
  refine ⟨fun pins s σ H Q I h => ?_⟩
  refine wpAny_Call_Name_kw (ld_glob I hg gC ?_ hdb)
  refine PySem.W.callWith_K0 I.kIn kC ?_
  show wpAny _ _ (call (.ref C) []) _ _ _
  obtain ⟨bm, N, nm, qn, bs, hdct, sn, sub, ab, col, dd, k0, k1, k2, k3, k5, mN, hC, hN, hni, T⟩ := exc_obj I.kIn q
  refine wpAny_call_exc_subT F T hC hN hni (fun h' a hm => ?_) (Nat.zero_le _)
  have hn : H a = none := I.hok.gone hm.new
  obtain ⟨t, ht, _, _⟩ := hm.there
  exact ⟨.ref a, _, I.laidN hm.keeps hm.new hn (exo_ok ht), rfl, h a hn⟩
end
end L2
/-! for k, x in enumerate(t), t a tuple. -/
namespace Et
open PySem PySem.Spec PyProof.Rows
theorem meets_new {v : Value} {o : Obj} {H : Heap → Prop} (B : Begins v o H) : Meets (Builtin.«enumerate.__new__» ⟨[.type "enumerate", v], []⟩) (fun _ R s => H s.heap ∧
    R (.ok (.ret (.ref (s.heap.push o).objs.size))) { s with heap := (s.heap.push o).push { cls := .type "enumerate", data := .fields #[.none, .bool false, .ref s.heap.objs.size, rawInt 0, .none, .none] } }) :=
  .of_wp fun prog w A R s h => by
    obtain ⟨hp, g, d, tk, os⟩ := s; obtain ⟨h1, h⟩ := h
    have hsub := sub_enumerate
    have q1 : ∀ {A' : Around} {E : Value → Shared → Prop} {Q : Value → Shared → Prop}, Q (.ref hp.objs.size) ⟨hp.push o, g, d, tk, os⟩ → wpAny (model prog w) A' (pyIter v) Q E ⟨hp, g, d, tk, os⟩ :=
      fun q => B.iter prog w _ _ ⟨hp, g, d, tk, os⟩ _ h1 q
    wp_walk using q1
    refine wpAny_stack_any fun st => wpAny_pure ?_
    split
    · rename_i c _ _ _ _ _
      cases (c == Value.type "enumerate") <;> (wp_walk using q1; exact ⟨_, rfl, h⟩)
    · wp_walk using q1
      exact ⟨_, rfl, h⟩
theorem begins {prog : Program} {w : World} {A : Around} {E : Value → Shared → Prop} {s : Shared} {v : Value} {o : Obj} {H : Heap → Prop} {Q : Value → Shared → Prop} (B : Begins v o H) (h1 : H s.heap)
    (h : ∀ h', IsEnum h' (s.heap.objs.size + 1) s.heap.objs.size 0 .none → h'.get? s.heap.objs.size = some o → h'.objs.size = s.heap.objs.size + 2 → (∀ b o, s.heap.get? b = some o → h'.get? b = some o) → Q (.ref (s.heap.objs.size + 1)) { s with heap := h' }) :
    wpAny (model prog w) A (call (.type "enumerate") [v]) Q E s := by
  refine callType_new F.called_enumerate (by decide) (F.typeCall_enumerate_1 _) (F.newCall_enumerate_1 _) (fun obj => F.args_object_init_2 obj _) F.entry_enumerate_new (meets_new B) ⟨h1, ?_⟩
  have hz : (s.heap.push o).objs.size = s.heap.objs.size + 1 := Heap.size_push ..
  show _ ∧ _
  rw [hz]
  have he : IsEnum ((s.heap.push o).push { cls := .type "enumerate", data := .fields #[.none, .bool false, .ref s.heap.objs.size, rawInt 0, .none, .none] }) (s.heap.objs.size + 1) s.heap.objs.size 0 .none := by
    have q := Heap.get?_push_size (s.heap.push o) (o := { cls := .type "enumerate", data := .fields #[.none, .bool false, .ref s.heap.objs.size, rawInt 0, .none, .none] }) rfl
    rw [hz] at q
    exact q
  exact ⟨⟨_, he, rfl⟩, h _ he (Heap.get?_push_of_some _ (Heap.get?_push_size _ B.free)) (by rw [Heap.size_push, hz]) fun b o x => Heap.get?_push_of_some _ (Heap.get?_push_of_some _ x)⟩
end Et
namespace L2
open PySem PySem.Spec PyProof.Rows
/-- the tuple at a, each item in a new pair with its place -/
def ItEt (K : PySem.W.Frag) (a : Addr) : It :=
  ⟨fun i H => ∃ xs, SqT K H a xs ∧ i < xs.length, fun i H v H' => ∃ T x, v = .ref T ∧ H T = none ∧ H' = upd H T (.tup [.int (i : Nat), x]) ∧ ∀ xs, SqT K H a xs → xs[i]? = some x, fun i H => ∃ xs, SqT K H a xs ∧ xs.length = i⟩
theorem it_ne {h : Heap} {it a : Addr} {i : Nat} {its : Array Value} (p : h.IsTupleIter it a i) (q : h.IsTuple a its) : a ≠ it := by
  intro z
  obtain ⟨o, e, c, _⟩ := p
  obtain ⟨o', e', c', _⟩ := q
  rw [z, e] at e'
  cases e'
  rw [c] at c'
  exact absurd (Value.type.inj c') (by decide)
theorem turn_enumT {P : Program} {w : World} {K : PySem.W.Frag} {elts : List Expr} {kk : Nat} {tpos : Pos} (a e it : Addr) :
    Turn P w K (.Tuple elts kk tpos) (ItEt K a) [e, it] e (fun i h => (∃ old, IsEnum h e it ((i : Nat) : Int) old) ∧ h.IsTupleIter it a i ∧ e ≠ it) where
  mem := by simp
  obj := fun i h st b hb => by
    obtain ⟨⟨old, he⟩, ⟨o, ho, hc, hd⟩, _⟩ := st
    have e' : b = e ∨ b = it := by simpa using hb
    rcases e' with z | z
    · rw [z]; exact ⟨_, he, fun v q => nomatch q⟩
    · rw [z]; exact ⟨o, ho, fun v q => by rw [hd] at q; cases q⟩
  keep := fun i h h' st k => let ⟨⟨old, he⟩, hi, hne⟩ := st; ⟨⟨old, k e (by simp) _ he⟩, hi.at fun o q => k it (by simp) o q, hne⟩
  item := by
    intro X hP hw hK hc i pins s σ H E I hf st hg
    subst hP hw hK
    obtain ⟨⟨old, he⟩, hit, hne⟩ := st
    obtain ⟨xs, hq, hx⟩ := hg
    obtain ⟨its, rv, p, hz⟩ := I.tuple hq
    have ht : s.heap.IsTuple a its.toArray := p
    have na := it_ne hit ht
    have hel : e < s.heap.objs.size := Heap.lt_size he
    have hil : it < s.heap.objs.size := by obtain ⟨_, q, _⟩ := hit; exact Heap.lt_size q
    have hae : e ≠ a := fun z => by
      obtain ⟨o', e', c', _⟩ := ht
      rw [← z, he] at e'
      cases e'
      exact absurd (Value.type.inj c') (by decide)
    have hef : e ∉ [it, a] := by simp [hne, hae]
    have hn : its.length = xs.length := rv.length.symm
    refine wpAny_pyNext_enum_itemD (St := fun i h => h.IsTupleIter it a i ∧ h.IsTuple a its.toArray) (Draws.tuple (A := X.A.in1) (I.ok.hd hc) it a na its.toArray) he ⟨hit, ht⟩ (by simp; omega) hne hef fun x h' tk hp ho hst hT hsz hk => ?_
    refine ⟨_, rfl, wpAny_letOwnedTupleGo_enum (s := { s with heap := h', toks := tk + 1 }) ho fun h'' he' sb => ?_⟩
    have hp2 : its[i]? = some x := by simpa using hp
    obtain ⟨y, hy⟩ : ∃ y, xs[i]? = some y := ⟨xs[i], by simp [hx]⟩
    obtain ⟨u, hu, ry⟩ := rv.get hy
    rw [hp2] at hu
    cases hu
    have hT2 : h''.get? s.heap.objs.size = some { cls := .type "tuple", data := .seq #[.int i tk, x] } := (sb.2 _ (Nat.ne_of_gt hel)).trans hT
    have new : ObjOk X.prog X.w (upd H s.heap.objs.size (.tup [.int (i : Nat), y])) h'' s.heap.objs.size (.tup [.int (i : Nat), y]) :=
      ⟨by show 2 ≤ sizeLine; decide, [.int i tk, x], .cons ⟨_, rfl⟩ (.cons ry .nil), ⟨_, hT2, rfl, _, rfl⟩⟩
    have I1 : Inv X pins σ (upd H s.heap.objs.size (.tup [.int (i : Nat), y])) { s with heap := h'', toks := tk + 1 } :=
      I.turnedNew (ch := [e, it]) (fun b ob hb q => (sb.2 b (fun z => hb (by simp [z]))).trans (hk b ob (fun z => hb (by simp [z])) (fun z => hb (by simp [z])) q)) hf (Nat.le_refl _) new
    refine ⟨.ref s.heap.objs.size, _, I1, rfl, ⟨_, y, rfl, I.hok.fresh (Nat.le_refl _), rfl, fun ys hy' => by rw [I.tuple_inj hy' hq]; exact hy⟩, ⟨⟨x, ?_⟩, hst.1.at fun o q => (sb.2 it (Ne.symm hne)).trans q, hne⟩, fun b hb => ?_⟩
    · have e1 : ((i + 1 : Nat) : Int) = (i : Int) + 1 := by omega
      rw [e1]; exact he'
    · have hb' : b < s.heap.objs.size := by
        have e' : b = e ∨ b = it := by simpa using hb
        rcases e' with z | z <;> (rw [z]; assumption)
      rw [upd_ne (Nat.ne_of_lt hb')]
      exact (hf b hb).1
  done := by
    intro X hP hw hK hc i pins s σ H E I hf st hg
    subst hP hw hK
    obtain ⟨⟨old, he⟩, hit, hne⟩ := st
    obtain ⟨xs, hq, hx⟩ := hg
    obtain ⟨its, rv, p, hz⟩ := I.tuple hq
    have ht : s.heap.IsTuple a its.toArray := p
    obtain ⟨f0, f1, f2, f3, f4, f5⟩ := hf it (by simp)
    have hn : its.toArray.size = i := by have := rv.length; simp; omega
    refine wpAny_pyNext_enum_endD (St := fun i h => h.IsTupleIter it a i ∧ h.IsTuple a its.toArray) (Draws.tuple (A := X.A.in1) (I.ok.hd hc) it a (it_ne hit ht) its.toArray) he (by rw [hn]; exact ⟨hit, ht⟩) fun h' eb => ⟨rfl, I.turned (t' := s.toks) (fun b o hb q => eb b o hb q) f0 f1 f3 f4 f5⟩
  self := fun A i s Q E st h => let ⟨⟨_, he⟩, _⟩ := st; wpAny_pyIter_enum he h
def iEnumT (K : PySem.W.Frag) (ta : TA) : TI := fun σ H R => ta σ H fun vs H1 => ∃ a xs, vs = [.ref a] ∧ SqT K H1 a xs ∧ R (ItEt K a) H1
theorem pi_enumT {X : Cx} {e : Expr} {ta : TA} {p pos tpos : Pos} {elts : List Expr} {kk : Nat} (hg : Gl X "enumerate") (hm : X.mg "enumerate" = none) (ha : PA X [e] ta) (hs : starEach [e] X.env = [(false, eval e X.env)] := by rfl) :
    PI X (.Tuple elts kk tpos) (.Call (.Name "enumerate" p) [e] [] pos) (iEnumT X.K ta) := by
  refine ⟨fun pins s σ H R I h => ?_⟩
  refine Call_ (ld_blt I hg hm boot_enumerate (PyProof.Rows.callWith_type1 (thn (ha.run pos pins s σ H _ I h) fun us s1 ⟨vs, H1, I1, r1, q1⟩ => ?_) hs rfl))
  obtain ⟨a, xs, ex, hq, q⟩ := q1
  subst ex
  cases r1 with
  | cons r rr =>
    cases rr
    cases r
    obtain ⟨its, rv, p', hz⟩ := I1.tuple hq
    refine Et.begins (begins_tuple a its.toArray) p' fun h' he hit hsz hk => wpAny_pyIter_enum he ?_
    have I2 : Inv X pins σ H1 { s1 with heap := h' } := I1.kept (t' := s1.toks) hk
    refine ⟨s1.heap.objs.size + 1, [s1.heap.objs.size + 1, s1.heap.objs.size], _, _, H1, rfl, I2, turn_enumT a (s1.heap.objs.size + 1) s1.heap.objs.size, ⟨⟨.none, he⟩, ⟨_, hit, rfl, rfl⟩, Nat.succ_ne_self _⟩, fun b hb => ?_, q⟩
    have e' : b = s1.heap.objs.size + 1 ∨ b = s1.heap.objs.size := by simpa using hb
    have hle : s1.heap.objs.size ≤ b := by
      rcases e' with z | z
      · rw [z]; exact Nat.le_add_right _ _
      · rw [z]; exact Nat.le_refl _
    exact I1.fpOk hle (I1.hok.fresh hle)
end L2
/-! Operators by all the kinds that the laws use; rules of Ev for them; the heap but one object. -/
namespace L2
open PySem PySem.Spec PyProof.Rows
section
variable {X : Cx}
def rAddS : R2 := fun x y H Q => ∃ i j, x = .str i ∧ y = .str j ∧ i.length + j.length ≤ sizeLine ∧ Q (.str (i ++ j)) H
def rAddU (K : PySem.W.Frag) : R2 := fun x y H Q => rI0 (fun i j => .int (i + j)) x y H Q ∨ rCat x y H Q ∨ rCatA K x y H Q ∨ rAddS x y H Q
theorem uAdd (K : PySem.W.Frag) (hK : X.K = K := by rfl) : OpR X (binaryOp .Add) (rAddU K) := by
  subst hK
  exact OpR.or op_add (OpR.or op_cat (OpR.or op_catA op_add_str))
/-- a text over and over -/
def rMulS : R2 := fun x y H Q => ∃ z n, x = .str z ∧ y = .int n ∧ MulOk z n ∧ Q (.str (Txt.mul z n)) H
theorem op_mulS : OpR X (binaryOp .Mult) rMulS := by
  intro pins s σ H x y v u Q I rx ry h
  obtain ⟨z, n, rfl, rfl, hz, q⟩ := h
  obtain ⟨t, rfl⟩ := rx
  obtain ⟨t', rfl⟩ := ry
  exact SB.mul hz fun t' k => ⟨.str (Txt.mul z n), H, I.kept (t' := k) fun _ _ z => z, ⟨_, rfl⟩, q⟩
def rMulU : R2 := fun x y H Q => rI CMul (fun i j => .int (i * j)) x y H Q ∨ rRep x y H Q ∨ rMulS x y H Q
theorem uMul : OpR X (binaryOp .Mult) rMulU := OpR.or op_mul (OpR.or op_rep op_mulS)
def rEqU (K : PySem.W.Frag) : R2 := fun x y H Q => rEq x y H Q ∨ rEqV K x y H Q ∨ rEqD K x y H Q
theorem uEq (K : PySem.W.Frag) (hu : X.A.units + 64 < cLine) (hK : X.K = K := by rfl) : OpR X (compareOp .Eq) (rEqU K) := by
  subst hK
  exact OpR.or op_eq (OpR.or (op_eqV hu) (op_eqD hu))
def rNeU (K : PySem.W.Frag) : R2 := fun x y H Q => rNe x y H Q ∨ rNeD K x y H Q
theorem uNe (K : PySem.W.Frag) (hu : X.A.units + 64 < cLine) (hK : X.K = K := by rfl) : OpR X (compareOp .NotEq) (rNeU K) := by
  subst hK
  exact OpR.or op_ne (op_neD hu)
theorem uIn (K : PySem.W.Frag) (hK : X.K = K := by rfl) : OpR X (compareOp .In) (rIn K false) := by
  subst hK
  exact op_in_seq
theorem uNotIn (K : PySem.W.Frag) (hK : X.K = K := by rfl) : OpR X (compareOp .NotIn) (rIn K true) := by
  subst hK
  exact op_notIn_seq
theorem uIx (K : PySem.W.Frag) (hK : X.K = K := by rfl) : IxR X (rIx K) := by
  subst hK
  exact ix_seq
theorem uSl (K : PySem.W.Frag) (hK : X.K = K := by rfl) : SlR X (rSlL K) := by
  subst hK
  exact sl_list
theorem hu64 {k : Nat} {A : Around} (hr : Room k A) : A.units + 64 < cLine := by have := hr.un; omega
theorem u_len (K : PySem.W.Frag) (hK : X.K = K := by rfl) : CallR X (.builtin "len") (Evl.rLenS K) := by
  subst hK
  exact call_len_seq
def rIntU : List V → Hp → VK → Prop := fun xs H Q => (∃ i, xs = [.int i] ∧ Q (.int i) H) ∨ ∃ k, xs = [.bl k] ∧ Q (.int (if k then 1 else 0)) H
theorem uC_int : CallR X (.type "int") rIntU := call_int1
def rIsU (K : PySem.W.Frag) : List V → Hp → VK → Prop := fun xs H Q => rIsW K xs H Q ∨ rIsWT K xs H Q
theorem u_isinstance (K : PySem.W.Frag) (hK : X.K = K := by rfl) : CallR X (.builtin "isinstance") (rIsU K) := by
  subst hK
  exact CallR.or call_isW call_isWT
end
end L2
namespace Evl
open PySem L2
section
variable {K : PySem.W.Frag} {H : Hp} {ta tb : TE} {σ : L2.St} {x y z : V}
theorem RV.l {r r' : R2} (h : RV r x y H z) : RV (fun x y H Q => r x y H Q ∨ r' x y H Q) x y H z := fun H1 e Q q => .inl (h H1 e Q q)
theorem RV.r {r r' : R2} (h : RV r' x y H z) : RV (fun x y H Q => r x y H Q ∨ r' x y H Q) x y H z := fun H1 e Q q => .inr (h H1 e Q q)
theorem RC.l {r r' : List V → Hp → VK → Prop} {vs : List V} (h : RC r vs H z) : RC (fun x H Q => r x H Q ∨ r' x H Q) vs H z := fun H1 e Q q => .inl (h H1 e Q q)
theorem RC.r {r r' : List V → Hp → VK → Prop} {vs : List V} (h : RC r' vs H z) : RC (fun x H Q => r x H Q ∨ r' x H Q) vs H z := fun H1 e Q q => .inr (h H1 e Q q)
theorem ev_add {i j : Int} (ha : Ev ta σ H (.int i)) (hb : Ev tb σ H (.int j)) : Ev (tOp (rAddU K) ta tb) σ H (.int (i + j)) := ev_op ha hb (RV.l (rv_I0 (g := fun i j => .int (i + j))))
theorem ev_sub {i j : Int} (ha : Ev ta σ H (.int i)) (hb : Ev tb σ H (.int j)) : Ev (tOp (rI0 fun i j => .int (i - j)) ta tb) σ H (.int (i - j)) := ev_op ha hb (rv_I0 (g := fun i j => .int (i - j)))
theorem ev_mul {i j : Int} (ha : Ev ta σ H (.int i)) (hb : Ev tb σ H (.int j)) (hc : CMul i j) : Ev (tOp rMulU ta tb) σ H (.int (i * j)) := ev_op ha hb (RV.l (rv_I (g := fun i j => .int (i * j)) hc))
theorem ev_fdiv {i j : Int} (ha : Ev ta σ H (.int i)) (hb : Ev tb σ H (.int j)) (hc : CDivN i j) : Ev (tOp (rI CDivN fun i j => .int (i.fdiv j)) ta tb) σ H (.int (i.fdiv j)) := ev_op ha hb (rv_I (g := fun i j => .int (i.fdiv j)) hc)
theorem ev_mod {i j : Int} (ha : Ev ta σ H (.int i)) (hb : Ev tb σ H (.int j)) (hc : j ≠ 0) : Ev (tOp (rI (fun _ j => j ≠ 0) fun i j => .int (i.fmod j)) ta tb) σ H (.int (i.fmod j)) := ev_op ha hb (rv_I (C := fun _ j => j ≠ 0) (g := fun i j => .int (i.fmod j)) hc)
theorem ev_pow {i j : Int} (ha : Ev ta σ H (.int i)) (hb : Ev tb σ H (.int j)) (hc : CPow i j) : Ev (tOp (rI CPow fun i j => .int (i ^ j.toNat)) ta tb) σ H (.int (i ^ j.toNat)) := ev_op ha hb (rv_I (g := fun i j => .int (i ^ j.toNat)) hc)
theorem ev_lt {i j : Int} (ha : Ev ta σ H (.int i)) (hb : Ev tb σ H (.int j)) : Ev (tOp (rI0 fun i j => .bl (decide (i < j))) ta tb) σ H (.bl (decide (i < j))) := ev_op ha hb (rv_I0 (g := fun i j => .bl (decide (i < j))))
theorem ev_ge {i j : Int} (ha : Ev ta σ H (.int i)) (hb : Ev tb σ H (.int j)) : Ev (tOp (rI0 fun i j => .bl (decide (j ≤ i))) ta tb) σ H (.bl (decide (j ≤ i))) := ev_op ha hb (rv_I0 (g := fun i j => .bl (decide (j ≤ i))))
theorem ev_gt {i j : Int} (ha : Ev ta σ H (.int i)) (hb : Ev tb σ H (.int j)) : Ev (tOp (rI0 fun i j => .bl (decide (j < i))) ta tb) σ H (.bl (decide (j < i))) := ev_op ha hb (rv_I0 (g := fun i j => .bl (decide (j < i))))
theorem ev_le {i j : Int} (ha : Ev ta σ H (.int i)) (hb : Ev tb σ H (.int j)) : Ev (tOp (rI0 fun i j => .bl (decide (i ≤ j))) ta tb) σ H (.bl (decide (i ≤ j))) := ev_op ha hb (rv_I0 (g := fun i j => .bl (decide (i ≤ j))))
theorem ev_eq (ha : Ev ta σ H x) (hb : Ev tb σ H y) (h : scal x y = true) : Ev (tOp (rEqU K) ta tb) σ H (.bl (decide (x = y))) := ev_op ha hb (RV.l (rv_eq h))
theorem ev_eqV (ha : Ev ta σ H x) (hb : Ev tb σ H y) (h : ∀ H1, Ex H H1 → ∃ n, n ≤ 60 ∧ EqR K H1 (EqV K H1 n) x y) : Ev (tOp (rEqU K) ta tb) σ H (.bl true) := ev_op ha hb fun H1 e Q q => by
  obtain ⟨n, hn, he⟩ := h H1 e
  exact .inr (.inl ⟨n, hn, he, q H1 (Ex.refl H1)⟩)
theorem ev_ne (ha : Ev ta σ H x) (hb : Ev tb σ H y) (h : scal x y = true) : Ev (tOp (rNeU K) ta tb) σ H (.bl (!decide (x = y))) := ev_op ha hb (RV.l (rv_ne h))
theorem ev_lenT {p : Addr} {xs : List V} (ha : Ev ta σ H (.ref p)) (h : SqT K H p xs) : Ev (tCB (rLenS K) (tCons ta tNil)) σ H (.int (xs.length : Int)) := ev_cb (ea_cons ha ea_nil) fun H1 e Q q => ⟨p, xs, rfl, .inr (ex_t e h), q H1 (Ex.refl H1)⟩
theorem ev_int {i : Int} (ha : Ev ta σ H (.int i)) : Ev (tCB rIntU (tCons ta tNil)) σ H (.int i) := ev_cb (ea_cons ha ea_nil) fun H1 _ Q q => .inl ⟨i, rfl, q H1 (Ex.refl H1)⟩
/-- xs[i] of a list -/
theorem ev_ixL {p : Addr} {xs : List V} {i : Int} {v : V} (ha : Ev ta σ H (.ref p)) (hb : Ev tb σ H (.int i)) (h : SqL K H p xs) (hi : atI xs i = some v) : Ev (tOp (rIx K) ta tb) σ H v :=
  ev_op ha hb fun H1 e Q q => .inl (rv_ixL h hi H1 e Q q)
end
end Evl
namespace Evl
open PySem L2
section
variable {K : PySem.W.Frag} {H H1 H2 : Hp} {ta tb te : TE} {σ : L2.St} {x y z v w : V} {D : Ends} {tz tu : TS}
/-! ### the heap but one object -/
/-- all is kept but what stands at s -/
def Xs (s : Addr) (H H' : Hp) : Prop := ∀ a o, a ≠ s → H a = some o → H' a = some o
theorem Xs.refl {s : Addr} : Xs s H H := fun _ _ _ h => h
theorem Xs.trans {s : Addr} (a : Xs s H H1) (b : Xs s H1 H2) : Xs s H H2 := fun x o n h => b x o n (a x o n h)
theorem Ex.xs {s : Addr} (e : Ex H H1) : Xs s H H1 := fun a o _ h => e a o h
theorem Xs.at_ {s : Addr} {o : HO} : Xs s H (upd H s o) := fun a u n h => by
  rw [upd_ne n]
  exact h
theorem Xs.sqL {s c : Addr} {xs : List V} (e : Xs s H H1) (n : c ≠ s) (h : SqL K H c xs) : SqL K H1 c xs := by
  rcases h with (h | ⟨o, h⟩) | h
  · exact .inl (.inl (e c _ n h))
  · exact .inl (.inr ⟨o, e c _ n h⟩)
  · exact .inr h
theorem Xs.sqT {s c : Addr} {xs : List V} (e : Xs s H H1) (n : c ≠ s) (h : SqT K H c xs) : SqT K H1 c xs := by
  rcases h with (h | ⟨o, h⟩) | h
  · exact .inl (.inl (e c _ n h))
  · exact .inl (.inr ⟨o, e c _ n h⟩)
  · exact .inr h
theorem Xs.none {s p : Addr} (e : Xs s H H1) (n : p ≠ s) (h : H1 p = none) : H p = none := by
  cases h1 : H p with
  | none => rfl
  | some o =>
    rw [e p o n h1] at h
    cases h
/-! ### the state of the draws: [cells, nth, left, mixed] at s -/
structure St4 (K : PySem.W.Frag) (H : Hp) (s c : Addr) (ns : List Int) (n l : Int) (m : Bool) : Prop where
  ne : c ≠ s
  cs : SqL K H c (ns.map V.int)
  len : ns.length ≤ 63
  st : H s = some (.lst [.ref c, .int n, .int l, .bl m])
variable {s c : Addr} {ns : List Int} {n l : Int} {m : Bool}
theorem St4.ex (S : St4 K H s c ns n l m) (e : Ex H H1) : St4 K H1 s c ns n l m := ⟨S.ne, ex_l e S.cs, S.len, e _ _ S.st⟩
theorem St4.put {n' l' : Int} {m' : Bool} (S : St4 K H s c ns n l m) : St4 K (upd H s (.lst [.ref c, .int n', .int l', .bl m'])) s c ns n' l' m' :=
  ⟨S.ne, Xs.at_.sqL S.ne S.cs, S.len, upd_same⟩
theorem St4.g0 (S : St4 K H s c ns n l m) (h0 : σ[0]? = some (some (.ref s))) : Ev (tOp (rIx K) (tVar 0) (tC (.int 0))) σ H (.ref c) := ev_ixL (ev_var h0) ev_c (sq_of S.st) rfl
theorem St4.g1 (S : St4 K H s c ns n l m) (h0 : σ[0]? = some (some (.ref s))) : Ev (tOp (rIx K) (tVar 0) (tC (.int 1))) σ H (.int n) := ev_ixL (ev_var h0) ev_c (sq_of S.st) rfl
theorem St4.g2 (S : St4 K H s c ns n l m) (h0 : σ[0]? = some (some (.ref s))) : Ev (tOp (rIx K) (tVar 0) (tC (.int 2))) σ H (.int l) := ev_ixL (ev_var h0) ev_c (sq_of S.st) rfl
theorem St4.g3 (S : St4 K H s c ns n l m) (h0 : σ[0]? = some (some (.ref s))) : Ev (tOp (rIx K) (tVar 0) (tC (.int 3))) σ H (.bl m) := ev_ixL (ev_var h0) ev_c (sq_of S.st) rfl
theorem St4.p1 (S : St4 K H s c ns n l m) (h0 : σ[0]? = some (some (.ref s))) {k : Int} (h : Ev te σ H (.int k)) (q : ∀ H1, Xs s H H1 → St4 K H1 s c ns k l m → D.nx σ H1) :
    tAsg te (gSub (tVar 0) (tC (.int 1)) rSetL) D σ H := s_setL (j := 1) S.st h (ev_var h0) ev_c (by simp) fun H1 e => q _ ((Ex.xs e).trans Xs.at_) (S.ex e).put
theorem St4.p2 (S : St4 K H s c ns n l m) (h0 : σ[0]? = some (some (.ref s))) {k : Int} (h : Ev te σ H (.int k)) (q : ∀ H1, Xs s H H1 → St4 K H1 s c ns n k m → D.nx σ H1) :
    tAsg te (gSub (tVar 0) (tC (.int 2)) rSetL) D σ H := s_setL (j := 2) S.st h (ev_var h0) ev_c (by simp) fun H1 e => q _ ((Ex.xs e).trans Xs.at_) (S.ex e).put
theorem St4.p3 (S : St4 K H s c ns n l m) (h0 : σ[0]? = some (some (.ref s))) {k : Bool} (h : Ev te σ H (.bl k)) (q : ∀ H1, Xs s H H1 → St4 K H1 s c ns n l k → D.nx σ H1) :
    tAsg te (gSub (tVar 0) (tC (.int 3)) rSetL) D σ H := s_setL (j := 3) S.st h (ev_var h0) ev_c (by simp) fun H1 e => q _ ((Ex.xs e).trans Xs.at_) (S.ex e).put
/-! ### statements -/
theorem q_par {i j : Nat} {ta : TA} (h : EvA ta σ H [v, w]) (k : ∀ H1, Ex H H1 → tz D ((σ.set i (some v)).set j (some w)) H1) : tSeq (tPar i j ta) tz D σ H :=
  h H (Ex.refl H) _ fun H1 e => ⟨v, w, rfl, k H1 e⟩
theorem q_st {t : TS} (h : t { D with nx := tz D } σ H) : tSeq t tz D σ H := h
theorem walk_enumT {a : Addr} {xs : List V} : Walk (ItEt K a) xs.length (fun H => SqT K H a xs) (fun i H v H' => ∃ T x, v = .ref T ∧ H T = none ∧ H' = upd H T (.tup [.int (i : Nat), x]) ∧ xs[i]? = some x) where
  goes := fun i H hi h => ⟨xs, h, hi⟩
  stops := fun H h => ⟨xs, h, rfl⟩
  yields := fun i H x H' hi h ⟨T, y, e1, e2, e3, e4⟩ => ⟨T, y, e1, e2, e3, e4 xs h⟩
theorem g_pair {i j : Nat} {T : Addr} {Q : L2.St → Hp → Prop} (h : H T = some (.tup [v, w])) (q : Q ((σ.set i (some v)).set j (some w)) H) : gTup K 2 (gCons (gName i) (gCons (gName j) gNil)) (.ref T) σ H Q :=
  ⟨T, [v, w], rfl, st_of h, rfl, v, [w], rfl, w, [], rfl, rfl, q⟩
/-- for i, j in enumerate((x, ..)), the tuple new -/
theorem s_forET {ta : TA} {i j : Nat} {xs : List V} (h : EvA ta σ H xs) (hx : xs.length ≤ 100000) (Pv : Addr → Nat → L2.St → Hp → Prop) (h0 : ∀ p H1, H p = none → Ex H H1 → H1 p = some (.tup xs) → Pv p 0 σ H1) (hP : ∀ p k σ' H', k ≤ xs.length → Pv p k σ' H' → SqT K H' p xs)
    (hs : ∀ p (k : Nat) x σ' H', xs[k]? = some x → Pv p k σ' H' → ∀ H2, Ex H' H2 → tu { D with nx := Pv p (k + 1), ct := Pv p (k + 1), bk := D.nx } ((σ'.set i (some (.int (k : Int)))).set j (some x)) H2) (hd : ∀ p σ' H', Pv p xs.length σ' H' → D.nx σ' H') :
    tFor (iEnumT K (tCons (tTup ta) tNil)) (gTup K 2 (gCons (gName i) (gCons (gName j) gNil))) tu D σ H := by
  unfold tFor iEnumT tCons
  exact (eu_tup h hx) H (Ex.refl H) _ fun p H1 hp e h1 => ⟨p, xs, rfl, st_of h1, for_it walk_enumT (Pv p) (h0 p H1 hp e h1) (fun k σ' H' hk pv => hP p k σ' H' hk pv) (fun k x σ' H' H2 hk pv ⟨T, y, e1, e2, e3, e4⟩ => by
    subst e1 e3
    exact g_pair upd_same (hs p k y σ' H' e4 pv _ (Ex.new e2))) (hd p)⟩
end
end Evl
namespace Evl
open PySem L2
section
variable {K : PySem.W.Frag} {H H1 H2 : Hp} {ta tb te : TE} {σ : L2.St} {x y z v w : V} {D : Ends} {tz tu : TS}
/-! ### types of values, and isinstance -/
inductive Kn (K : PySem.W.Frag) (H : Hp) : V → String → Prop where
  | non : Kn K H .non "NoneType"
  | bl (b : Bool) : Kn K H (.bl b) "bool"
  | int (i : Int) : Kn K H (.int i) "int"
  | str (x : Str) : Kn K H (.str x) "str"
  | lst {a : Addr} {xs : List V} (h : SqL K H a xs) : Kn K H (.ref a) "list"
  | tup {a : Addr} {xs : List V} (h : SqT K H a xs) : Kn K H (.ref a) "tuple"
  | dK {a : Addr} {kvs : List (Key × V)} (h : H a = some (.dK kvs)) : Kn K H (.ref a) "dict"
theorem Kn.ex {t : String} (k : Kn K H x t) (e : Ex H H1) : Kn K H1 x t := by
  cases k with
  | non => exact .non
  | bl b => exact .bl b
  | int i => exact .int i
  | str x => exact .str x
  | lst h => exact .lst (ex_l e h)
  | tup h => exact .tup (ex_t e h)
  | dK h => exact .dK (e _ _ h)
theorem Kn.ty {t : String} (k : Kn K H x t) : TyX K H x (.type t) := by
  cases k with
  | non => exact .base .non
  | bl b => exact .base (.bl b)
  | int i => exact .base (.int i)
  | str x => exact .base (.str x)
  | lst h =>
    rcases h with (h | ⟨o, h⟩) | ⟨o, its, n, hk, hc, _⟩
    · exact .base (.lst h)
    · exact .base (.frz h)
    · exact .kList hk hc
  | tup h =>
    rcases h with (h | ⟨o, h⟩) | ⟨o, its, n, hk, hc, _⟩
    · exact .base (.tup h)
    · exact .fTuple h
    · exact .kTuple hk hc
  | dK h => exact .base (.dK h)
/-- isinstance(x, n), a built-in type -/
theorem ev_is1 {t n : String} {b : Bool} (ha : Ev ta σ H x) (k : Kn K H x t) (h : kitB t n = some b) : Ev (tCB (rIsU K) (tCons ta (tCons (tC (.ty n)) tNil))) σ H (.bl b) :=
  ev_cb (ea_cons ha (ea_cons ev_c ea_nil)) fun H1 e Q q => .inl ⟨x, .ty n, .type t, .type n, b, rfl, .ty n, .base (k.ex e).ty, kit_ty h, q H1 (Ex.refl H1)⟩
def kitBs (t : String) : List String → Option Bool
  | [] => some false
  | c :: r => match kitB t c with
    | some true => some true
    | some false => kitBs t r
    | none => none
theorem kitBs_ok {t : String} : ∀ {ns : List String} {b : Bool}, kitBs t ns = some b → PySem.W.kitAny K (.type t) (ns.map Value.type) = some b
  | [], b, h => h
  | c :: r, b, h => by
    have e : PySem.W.kitOne K (.type t) (.type c) = kitB t c := rfl
    show (match PySem.W.kitOne K (.type t) (.type c) with | some true => some true | some false => PySem.W.kitAny K (.type t) (r.map Value.type) | none => none) = some b
    rw [e]
    unfold kitBs at h
    split at h
    · exact h
    · exact kitBs_ok h
    · cases h
theorem clsv_tys : ∀ ns : List String, Paired ClsV (ns.map V.ty) (ns.map Value.type)
  | [] => .nil
  | n :: r => .cons (.ty n) (clsv_tys r)
/-- isinstance(x, (n, ..)) -/
theorem ev_isT {tb : TA} {t : String} {b : Bool} (ns : List String) (ha : Ev ta σ H x) (hb : EvA tb σ H (ns.map V.ty)) (hl : ns.length ≤ 100000) (k : Kn K H x t) (h : kitBs t ns = some b) : Ev (tCB (rIsU K) (tCons ta (tCons (tTup tb) tNil))) σ H (.bl b) := fun H1 e1 Q q =>
  ha H1 e1 _ fun H2 e2 => (eu_tup hb (by rw [List.length_map]; exact hl)) H2 (e1.trans e2) _ fun p H3 hp e3 h3 =>
    .inr ⟨x, p, _, .type t, _, b, rfl, h3, clsv_tys ns, .base (k.ex ((e1.trans e2).trans e3)).ty, kitBs_ok h, q H3 (e2.trans e3)⟩
/-! ### all over a new list of bools -/
theorem ev_all {bs : List Bool} {te : TE} (h : EvL te σ H (bs.map V.bl)) : Ev (tCB (rAll K) (tCons te tNil)) σ H (.bl (bs.all id)) := fun H1 e1 Q q =>
  h H1 e1 _ fun p H2 hp e2 h2 => ⟨p, bs, rfl, sq_of h2, q H2 e2⟩
theorem given_all (n : Nat) (v : Nat → V) : given n (fun _ => true) v = (List.range n).map v := by
  unfold given
  rw [List.filter_eq_self.mpr fun _ _ => rfl]
/-! ### zip of two sequences -/
theorem walk_zipT {a b : Addr} {xs ys : List V} (hl : xs.length = ys.length) : Walk (RZ.ItzT K a b) xs.length (fun H => SqT K H a xs ∧ SqT K H b ys) (YPair (fun i => xs[i]?) (fun i => ys[i]?)) where
  goes := fun i H hi ⟨h1, h2⟩ => ⟨xs, ys, xs[i], ys[i]'(hl ▸ hi), h1, h2, by simp [hi], by simp [hl ▸ hi]⟩
  stops := fun H ⟨h1, h2⟩ => ⟨xs, ys, h1, h2, .inl (Nat.le_refl _)⟩
  yields := fun i H x H' hi ⟨h1, h2⟩ ⟨T, y, z, e1, e2, e3, e4, e5⟩ => ⟨T, y, z, e1, e2, e3, e4 xs h1, e5 ys h2⟩
/-- [v for i, j in zip(a, b)] -/
theorem el_zip {tl : TA} {a b : Addr} {xs ys : List V} {i j : Nat} {vs : List Nat} (v : Nat → V) (h : EvA tl σ H [.ref a, .ref b]) (hx : (SqL K H a xs ∧ SqL K H b ys) ∨ (SqT K H a xs ∧ SqT K H b ys)) (hl : xs.length = ys.length) (hz : xs.length ≤ 40000)
    (hw : ∀ x y, wipe (((wipe σ vs).set i (some x)).set j (some y)) vs = wipe σ vs) (he : ∀ (k : Nat) (x y : V) H1, Ex H H1 → xs[k]? = some x → ys[k]? = some y → Ev te (((wipe σ vs).set i (some x)).set j (some y)) H1 (v k)) :
    EvL (tLc (RZ.iZipA K tl) (gTup K 2 (gCons (gName i) (gCons (gName j) gNil))) tYes te vs) σ H ((List.range xs.length).map v) := fun H0 e0 Q q => h H0 e0 _ fun H1 e1 => by
  have step : ∀ (Dl : Addr) (k : Nat) (x : V) (Ha Hb : Hp), k < xs.length → Cw H1 (fun _ => true) v Dl k Ha → YPair (fun i => xs[i]?) (fun i => ys[i]?) k Ha x Hb → gTup K 2 (gCons (gName i) (gCons (gName j) gNil)) x (wipe σ vs) Hb fun σ2 H2 => wipe σ2 vs = wipe σ vs ∧ tYes σ2 H2 fun b H3 =>
      if b = true then te σ2 H3 fun y H4 => ∃ acc, H4 Dl = some (.lst acc) ∧ acc.length < sizeLine ∧ Cw H1 (fun _ => true) v Dl (k + 1) (upd H4 Dl (.lst (acc ++ [y]))) else Cw H1 (fun _ => true) v Dl (k + 1) H3 := by
    intro Dl k x Ha Hb hk p ⟨T, y, z, e1', e2', e3', e4, e5⟩
    subst e1' e3'
    have p2 : Cw H1 (fun _ => true) v Dl k (upd Ha T (.tup [y, z])) := ⟨p.1, p.2.1.trans (Ex.new e2'), (Ex.new e2') _ _ p.2.2⟩
    exact g_pair upd_same ⟨hw y z, cw_turn p2 (by omega) (fun H3 _ Q q => q H3 (Ex.refl H3)) fun _ => he k y z H1 (e0.trans e1) e4 e5⟩
  rcases hx with ⟨h1, h2⟩ | ⟨h1, h2⟩
  · exact ⟨a, b, xs, ys, rfl, .inl ⟨ex_l (e0.trans e1) h1, ex_l (e0.trans e1) h2, fun Dl hD => lc_it (walk_zip (by omega)) (Cw H1 (fun _ => true) v Dl) ⟨hD, Ex.new hD, upd_same⟩ (fun k H' _ p => ⟨ex_l ((e0.trans e1).trans p.2.1) h1, ex_l ((e0.trans e1).trans p.2.1) h2⟩)
      (fun k x Ha Hb hk p y => step Dl k x Ha Hb hk p y) fun H' p => q Dl H' (fresh_back e1 p.1) (e1.trans p.2.1) (given_all _ v ▸ p.2.2)⟩⟩
  · exact ⟨a, b, xs, ys, rfl, .inr ⟨ex_t (e0.trans e1) h1, ex_t (e0.trans e1) h2, fun Dl hD => lc_it (walk_zipT hl) (Cw H1 (fun _ => true) v Dl) ⟨hD, Ex.new hD, upd_same⟩ (fun k H' _ p => ⟨ex_t ((e0.trans e1).trans p.2.1) h1, ex_t ((e0.trans e1).trans p.2.1) h2⟩)
      (fun k x Ha Hb hk p y => step Dl k x Ha Hb hk p y) fun H' p => q Dl H' (fresh_back e1 p.1) (e1.trans p.2.1) (given_all _ v ▸ p.2.2)⟩⟩
end
end Evl
namespace Lw
open PySem PySem.Spec PyProof.Rows L2 Evl
abbrev veM : List Value := [.type "ValueError", .type "Exception", .type "BaseException", .type "object"]
def top (i : Nat) : Stmt := PySem.Challenge.pw_laternets_k01_errors_made.main.body.getD i (.Pass ⟨0, 0, 0, 0⟩)
abbrev s_fresh : Stmt := top 21
theorem sc_fresh : FnScope ["_law_script"] ["_law_script"] (defScope s_fresh) := ⟨rfl, rfl, rfl, by decide +kernel, rfl, by decide +kernel, by decide +kernel⟩
abbrev s_fill : Stmt := top 22
theorem sc_fill : FnScope ["_law_state", "_law_cells", "_law_nth", "_law_seed", "_law_k", "_law_prime", "_law_far"] ["_law_state"] (defScope s_fill) := ⟨rfl, rfl, rfl, by decide +kernel, rfl, by decide +kernel, by decide +kernel⟩
abbrev s_take : Stmt := top 23
theorem sc_take : FnScope ["_law_state", "_law_many", "_law_laps", "_law_digit"] ["_law_state", "_law_many"] (defScope s_take) := ⟨rfl, rfl, rfl, by decide +kernel, rfl, by decide +kernel, by decide +kernel⟩
abbrev s_one : Stmt := top 24
theorem sc_one : FnScope ["_law_state", "_law_things"] ["_law_state", "_law_things"] (defScope s_one) := ⟨rfl, rfl, rfl, by decide +kernel, rfl, by decide +kernel, by decide +kernel⟩
abbrev s_same : Stmt := top 25
theorem sc_same : FnScope ["_law_found", "_law_due", "_law_a", "_law_b"] ["_law_found", "_law_due"] (defScope s_same) := ⟨rfl, rfl, rfl, by decide +kernel, rfl, by decide +kernel, by decide +kernel⟩
abbrev s_with_one : Stmt := top 26
theorem sc_with_one : FnScope ["_law_x", "_law_found"] ["_law_x"] (defScope s_with_one) := ⟨rfl, rfl, rfl, by decide +kernel, rfl, by decide +kernel, by decide +kernel⟩
abbrev s_by_place : Stmt := top 27
theorem sc_by_place : FnScope ["_law_x", "_law_found"] ["_law_x"] (defScope s_by_place) := ⟨rfl, rfl, rfl, by decide +kernel, rfl, by decide +kernel, by decide +kernel⟩
abbrev s_held : Stmt := top 28
theorem sc_held : FnScope ["_law_errors", "_law_found"] ["_law_errors"] (defScope s_held) := ⟨rfl, rfl, rfl, by decide +kernel, rfl, by decide +kernel, by decide +kernel⟩
abbrev s_classes : Stmt := top 29
theorem sc_classes : FnScope ["_law_e", "_law_found"] ["_law_e"] (defScope s_classes) := ⟨rfl, rfl, rfl, by decide +kernel, rfl, by decide +kernel, by decide +kernel⟩
abbrev s_law : Stmt := top 30
theorem sc_law : FnScope ["_law_script", "_law_state", "_law_turn", "_law_x", "_law_ones", "_law_errors", "_law_k", "_law_e", "_law_found", "_law_at"] ["_law_script"] (defScope s_law) := ⟨rfl, rfl, rfl, by decide +kernel, rfl, by decide +kernel, by decide +kernel⟩
/-- what the run up to the law leaves, by names -/
structure Txt (P : Program) (K : PySem.W.Frag) (mg : Str → Option Value) : Type where
  a_fresh : Addr
  d_fresh : FuncData
  F_fresh : FunD K "_law_fresh" "_law_fresh" (defArgs s_fresh) (defBody s_fresh) (defScope s_fresh) [] [] a_fresh d_fresh
  g_fresh : mg "_law_fresh" = some (.ref a_fresh)
  b_fresh : Binds K d_fresh ["_law_script"] []
  a_fill : Addr
  d_fill : FuncData
  F_fill : FunD K "_law_fill" "_law_fill" (defArgs s_fill) (defBody s_fill) (defScope s_fill) [] [] a_fill d_fill
  g_fill : mg "_law_fill" = some (.ref a_fill)
  b_fill : Binds K d_fill ["_law_state"] []
  a_take : Addr
  d_take : FuncData
  F_take : FunD K "_law_take" "_law_take" (defArgs s_take) (defBody s_take) (defScope s_take) [] [] a_take d_take
  g_take : mg "_law_take" = some (.ref a_take)
  b_take : Binds K d_take ["_law_state", "_law_many"] []
  a_one : Addr
  d_one : FuncData
  F_one : FunD K "_law_one" "_law_one" (defArgs s_one) (defBody s_one) (defScope s_one) [] [] a_one d_one
  g_one : mg "_law_one" = some (.ref a_one)
  b_one : Binds K d_one ["_law_state", "_law_things"] []
  a_same : Addr
  d_same : FuncData
  F_same : FunD K "_law_same" "_law_same" (defArgs s_same) (defBody s_same) (defScope s_same) [] [] a_same d_same
  g_same : mg "_law_same" = some (.ref a_same)
  b_same : Binds K d_same ["_law_found", "_law_due"] []
  a_with_one : Addr
  d_with_one : FuncData
  F_with_one : FunD K "_law_with_one" "_law_with_one" (defArgs s_with_one) (defBody s_with_one) (defScope s_with_one) [] [] a_with_one d_with_one
  g_with_one : mg "_law_with_one" = some (.ref a_with_one)
  b_with_one : Binds K d_with_one ["_law_x"] []
  a_by_place : Addr
  d_by_place : FuncData
  F_by_place : FunD K "_law_by_place" "_law_by_place" (defArgs s_by_place) (defBody s_by_place) (defScope s_by_place) [] [] a_by_place d_by_place
  g_by_place : mg "_law_by_place" = some (.ref a_by_place)
  b_by_place : Binds K d_by_place ["_law_x"] []
  a_held : Addr
  d_held : FuncData
  F_held : FunD K "_law_held" "_law_held" (defArgs s_held) (defBody s_held) (defScope s_held) [] [] a_held d_held
  g_held : mg "_law_held" = some (.ref a_held)
  b_held : Binds K d_held ["_law_errors"] []
  a_classes : Addr
  d_classes : FuncData
  F_classes : FunD K "_law_classes" "_law_classes" (defArgs s_classes) (defBody s_classes) (defScope s_classes) [] [] a_classes d_classes
  g_classes : mg "_law_classes" = some (.ref a_classes)
  b_classes : Binds K d_classes ["_law_e"] []
  a_law : Addr
  d_law : FuncData
  F_law : FunD K "law" "law" (defArgs s_law) (defBody s_law) (defScope s_law) [] [] a_law d_law
  b_law : Binds K d_law ["_law_script"] []
  c_NetError : Addr
  g_NetError : mg "NetError" = some (.ref c_NetError)
  e_NetError : ExcC K c_NetError
  x_NetError : PySem.W.excIn K c_NetError veM "ValueError.__new__" = true
  k_NetError : PySem.W.keepIn K (.ref c_NetError) = true
  c_BadBoxes : Addr
  g_BadBoxes : mg "BadBoxes" = some (.ref c_BadBoxes)
  e_BadBoxes : ExcC K c_BadBoxes
  f_BadBoxes : Addr
  X_BadBoxes : Sx.XTxt K P "thing" c_BadBoxes f_BadBoxes
  y_BadBoxes : XfC K c_BadBoxes
  c_BadBox : Addr
  g_BadBox : mg "BadBox" = some (.ref c_BadBox)
  e_BadBox : ExcC K c_BadBox
  f_BadBox : Addr
  X_BadBox : Sx.XTxt K P "name" c_BadBox f_BadBox
  y_BadBox : XfC K c_BadBox
  c_BadOutputs : Addr
  g_BadOutputs : mg "BadOutputs" = some (.ref c_BadOutputs)
  e_BadOutputs : ExcC K c_BadOutputs
  f_BadOutputs : Addr
  X_BadOutputs : Sx.XTxt K P "thing" c_BadOutputs f_BadOutputs
  y_BadOutputs : XfC K c_BadOutputs
  c_BadOutput : Addr
  g_BadOutput : mg "BadOutput" = some (.ref c_BadOutput)
  e_BadOutput : ExcC K c_BadOutput
  f_BadOutput : Addr
  X_BadOutput : Sx.XTxt K P "name" c_BadOutput f_BadOutput
  y_BadOutput : XfC K c_BadOutput
  c_Ring : Addr
  g_Ring : mg "Ring" = some (.ref c_Ring)
  e_Ring : ExcC K c_Ring
  f_Ring : Addr
  X_Ring : Sx.XTxt K P "name" c_Ring f_Ring
  y_Ring : XfC K c_Ring
  c_BadTime : Addr
  g_BadTime : mg "BadTime" = some (.ref c_BadTime)
  e_BadTime : ExcC K c_BadTime
  f_BadTime : Addr
  X_BadTime : Sx.XTxt K P "time" c_BadTime f_BadTime
  y_BadTime : XfC K c_BadTime
  c_TooLong : Addr
  g_TooLong : mg "TooLong" = some (.ref c_TooLong)
  e_TooLong : ExcC K c_TooLong
  f_TooLong : Addr
  X_TooLong : Sx.XTxt K P "time" c_TooLong f_TooLong
  y_TooLong : XfC K c_TooLong
  c_BadMeaning : Addr
  g_BadMeaning : mg "BadMeaning" = some (.ref c_BadMeaning)
  e_BadMeaning : ExcC K c_BadMeaning
  f_BadMeaning : Addr
  X_BadMeaning : Sx.XTxt K P "meaning" c_BadMeaning f_BadMeaning
  y_BadMeaning : XfC K c_BadMeaning
  c_BadNet : Addr
  g_BadNet : mg "BadNet" = some (.ref c_BadNet)
  e_BadNet : ExcC K c_BadNet
  f_BadNet : Addr
  X_BadNet : Sx.XTxt K P "net" c_BadNet f_BadNet
  y_BadNet : XfC K c_BadNet
  c_BadLate : Addr
  g_BadLate : mg "BadLate" = some (.ref c_BadLate)
  e_BadLate : ExcC K c_BadLate
  f_BadLate : Addr
  X_BadLate : Sx.XTxt K P "late" c_BadLate f_BadLate
  y_BadLate : XfC K c_BadLate
  c_BadTimes : Addr
  g_BadTimes : mg "BadTimes" = some (.ref c_BadTimes)
  e_BadTimes : ExcC K c_BadTimes
  f_BadTimes : Addr
  X_BadTimes : Sx.XTxt K P "times" c_BadTimes f_BadTimes
  y_BadTimes : XfC K c_BadTimes
  c_BadDistances : Addr
  g_BadDistances : mg "BadDistances" = some (.ref c_BadDistances)
  e_BadDistances : ExcC K c_BadDistances
  f_BadDistances : Addr
  X_BadDistances : Sx.XTxt K P "distances" c_BadDistances f_BadDistances
  y_BadDistances : XfC K c_BadDistances
  c_BadPeriod : Addr
  g_BadPeriod : mg "BadPeriod" = some (.ref c_BadPeriod)
  e_BadPeriod : ExcC K c_BadPeriod
  f_BadPeriod : Addr
  X_BadPeriod : Sx.XTxt K P "period" c_BadPeriod f_BadPeriod
  y_BadPeriod : XfC K c_BadPeriod
  c_HasNet : Addr
  g_HasNet : mg "HasNet" = some (.ref c_HasNet)
  e_HasNet : ExcC K c_HasNet
  f_HasNet : Addr
  X_HasNet : Sx.XTxt K P "period" c_HasNet f_HasNet
  y_HasNet : XfC K c_HasNet
  c_BadInput : Addr
  g_BadInput : mg "BadInput" = some (.ref c_BadInput)
  e_BadInput : ExcC K c_BadInput
  f_BadInput : Addr
  X_BadInput : Sx.XTxt K P "name" c_BadInput f_BadInput
  y_BadInput : XfC K c_BadInput
  c_BadLag : Addr
  g_BadLag : mg "BadLag" = some (.ref c_BadLag)
  e_BadLag : ExcC K c_BadLag
  f_BadLag : Addr
  X_BadLag : Sx.XTxt K P "lag" c_BadLag f_BadLag
  y_BadLag : XfC K c_BadLag
  c_BadText : Addr
  g_BadText : mg "BadText" = some (.ref c_BadText)
  e_BadText : ExcC K c_BadText
  f_BadText : Addr
  X_BadText : Sx.XTxt K P "line" c_BadText f_BadText
  y_BadText : XfC K c_BadText
  c_BadMany : Addr
  g_BadMany : mg "BadMany" = some (.ref c_BadMany)
  e_BadMany : ExcC K c_BadMany
  f_BadMany : Addr
  X_BadMany : Sx.XTxt K P "many" c_BadMany f_BadMany
  y_BadMany : XfC K c_BadMany
  n_ArithmeticError : mg "ArithmeticError" = none
  n_LookupError : mg "LookupError" = none
  n_TypeError : mg "TypeError" = none
  n_ValueError : mg "ValueError" = none
  n_all : mg "all" = none
  n_bool : mg "bool" = none
  n_enumerate : mg "enumerate" = none
  n_int : mg "int" = none
  n_isinstance : mg "isinstance" = none
  n_len : mg "len" = none
  n_list : mg "list" = none
  n_range : mg "range" = none
  n_tuple : mg "tuple" = none
  n_zip : mg "zip" = none
section
variable {P : Program} {w : World} {K : PySem.W.Frag} {mg : Str → Option Value} {base : Heap}
def StX (K : PySem.W.Frag) (H : Hp) (s c : Addr) (ns : List Int) : Prop := ∃ n l m, St4 K H s c ns n l m
theorem StX.ex {H H1 : Hp} {s c : Addr} {ns : List Int} (S : StX K H s c ns) (e : Ex H H1) : StX K H1 s c ns := by
  obtain ⟨n, l, m, S⟩ := S
  exact ⟨n, l, m, S.ex e⟩
theorem cut_int (ns : List Int) (lo hi : Option Int) : ∃ ns' : List Int, cutV (ns.map V.int) lo hi = ns'.map V.int ∧ ns'.length ≤ ns.length := by
  unfold cutV
  refine ⟨(ns.drop _).take _, by rw [List.map_take, List.map_drop], ?_⟩
  rw [List.length_take, List.length_drop]
  omega
theorem at_int (ns : List Int) {i : Int} (h0 : 0 ≤ i) (h1 : i < ns.length) : atI (ns.map V.int) i = some (.int (ns.getD i.toNat 0)) := by
  obtain ⟨j, rfl⟩ := Int.eq_ofNat_of_zero_le h0
  have hj : j < ns.length := by omega
  unfold atI
  rw [show ixN (ns.map V.int).length (j : Int) = some j from ixN_nat (by simpa using hj)]
  simp [hj]
theorem fm_pos (a : Int) {b : Int} (h : 0 < b) : 0 ≤ a.fmod b ∧ a.fmod b < b := ⟨Int.fmod_nonneg_of_pos a h, Int.fmod_lt_of_pos a h⟩
def spFresh (K : PySem.W.Frag) : Sp := fun vs H Q _ => ∃ (a : Addr) (ns : List Int), vs = [.ref a] ∧ SqL K H a (ns.map V.int) ∧ ns.length ≤ 63 ∧ ∀ s c ns' H', H s = none → H c = none → Ex H H' → StX K H' s c ns' → Q (.ref s) H'
theorem ok_fresh (T : Txt P K mg) : FnOk P w K mg base CX0 1 T.a_fresh T.d_fresh ["_law_script"] (spFresh K) := by
  refine T.F_fresh.ok sc_fresh (fun vs H Q E h => ?_) (fun cdv A outer s H vs Q E hr h => ⟨_, PSs.nox (pss_one (ps_ret (pe_lst (pa_cons (pe_slice (uSl K) (pv 0) po_none (po_some pe_int)) (pa_cons pe_int (pa_cons pe_int (pa_cons pe_bl pa_nil))))))), ?_⟩)
  · obtain ⟨a, ns, rfl, _⟩ := h
    rfl
  · obtain ⟨a, ns, rfl, hS, hl, hQ⟩ := h
    obtain ⟨ns', e1, e2⟩ := cut_int ns none (some 63)
    refine (el_sl (ev_var rfl) eo_none (eo_some ev_c) hS) H (Ex.refl H) _ fun c H1 hc ex1 h1 => ?_
    refine ⟨by show 4 ≤ sizeLine; decide, fun st hs => ?_⟩
    have hcs : c ≠ st := fun z => by rw [z, hs] at h1; cases h1
    refine hQ st c ns' _ (fresh_back ex1 hs) hc (ex1.trans (Ex.new hs)) ⟨0, 0, false, hcs, ?_, by omega, upd_same⟩
    rw [← e1]
    exact ex_l (Ex.new hs) (sq_of h1)
def primes : List V := [.int 2147483647, .int 2147483629, .int 2147483587, .int 2147483579, .int 2147483563]
theorem primes_at : ∀ {k : Nat} {x : V}, primes[k]? = some x → k < 5 ∧ ∃ p : Int, x = .int p ∧ 0 < p ∧ p < 2147483648
  | 0, _, h => by cases h; exact ⟨by decide, _, rfl, by decide, by decide⟩
  | 1, _, h => by cases h; exact ⟨by decide, _, rfl, by decide, by decide⟩
  | 2, _, h => by cases h; exact ⟨by decide, _, rfl, by decide, by decide⟩
  | 3, _, h => by cases h; exact ⟨by decide, _, rfl, by decide, by decide⟩
  | 4, _, h => by cases h; exact ⟨by decide, _, rfl, by decide, by decide⟩
  | k + 5, _, h => by cases h
def spFill (K : PySem.W.Frag) : Sp := fun vs H Q _ => ∃ s c ns, vs = [.ref s] ∧ StX K H s c ns ∧ ∀ H', Xs s H H' → StX K H' s c ns → Q .non H'
theorem ok_fill (T : Txt P K mg) : FnOk P w K mg base CX0 1 T.a_fill T.d_fill ["_law_state"] (spFill K) := by
  refine T.F_fill.ok sc_fill (fun vs H Q E h => ?_) (fun cdv A outer s H vs Q E hr h => ⟨_, PSs.nox (pss_cons (ps_par (i := 1) (j := 2) rfl sc_fill.nd rfl rfl (by decide) rfl rfl (pa_cons (pe_ix (uIx K) (pv 0) pe_int (fun _ _ => rfl)) (pa_cons (pe_ix (uIx K) (pv 0) pe_int (fun _ _ => rfl)) pa_nil)) rfl rfl) (pss_cons (ps_set (i := 3) sc_fill.nd rfl (Or.inl rfl) (pe_op (uAdd K) (pe_op uMul pe_int (pv 2)) pe_int)) (pss_cons (ps_if (pt_cmpR op_gt (pe_callB (u_len K) rfl T.n_len (by decide +kernel) (pa_cons (pv 1) pa_nil)) pe_int (nomark _)) (pss_one (ps_set (i := 3) sc_fill.nd rfl (Or.inl rfl) (pe_op (uAdd K) (pe_op uMul pe_int (pe_op op_fdivN (pv 2) (pe_callB (u_len K) rfl T.n_len (by decide +kernel) (pa_cons (pv 1) pa_nil)))) (pe_ix (uIx K) (pv 1) (pe_op op_modN (pe_callTy uC_int rfl T.n_int (by decide +kernel) (pa_cons (pv 2) pa_nil)) (pe_callB (u_len K) rfl T.n_len (by decide +kernel) (pa_cons (pv 1) pa_nil))) (fun _ _ => rfl))))) pss_nil) (pss_cons (ps_asg (pe_op (uAdd K) (pv 2) pe_int) (pg_sub (pv 0) pe_int set_list)) (pss_cons (ps_asg (pe_or (pe_cmpR op_ge (pv 2) (pe_callB (u_len K) rfl T.n_len (by decide +kernel) (pa_cons (pv 1) pa_nil)) (nomark _)) (pe_one (pe_cmpR op_lt (pv 3) (pe_op op_pow pe_int pe_int) (nomark _)))) (pg_sub (pv 0) pe_int set_list)) (pss_cons (ps_asg (pe_op op_sub (pv 3) (pe_op op_pow pe_int pe_int)) (pg_sub (pv 0) pe_int set_list)) (pss_one (ps_if (pt_val (pe_ix (uIx K) (pv 0) pe_int (fun _ _ => rfl))) (pss_cons (ps_asg pe_int (pg_sub (pv 0) pe_int set_list)) (pss_one (ps_for PassesOwn.never rfl (pi_enumT rfl T.n_enumerate (pa_cons (pe_tup (pa_cons pe_int (pa_cons pe_int (pa_cons pe_int (pa_cons pe_int (pa_cons pe_int pa_nil)))))) pa_nil)) (pg_tup rfl (pgs_cons (pg_name (i := 4) sc_fill.nd rfl (Or.inl rfl)) (pgs_cons (pg_name (i := 5) sc_fill.nd rfl (Or.inl rfl)) pgs_nil))) (pss_cons (ps_set (i := 6) sc_fill.nd rfl (Or.inl rfl) (pe_op op_modN (pe_callTy uC_int rfl T.n_int (by decide +kernel) (pa_cons (pe_op uMul (pe_op (uAdd K) (pe_op (uAdd K) (pv 3) (pe_op uMul (pe_op uMul pe_int (pv 4)) (pv 4))) (pe_op uMul pe_int (pv 4))) (pe_op (uAdd K) pe_int (pe_op uMul pe_int (pv 4)))) pa_nil)) (pv 5))) (pss_one (ps_asg (pe_op (uAdd K) (pe_op uMul (pe_ix (uIx K) (pv 0) pe_int (fun _ _ => rfl)) (pv 5)) (pe_op op_modN (pe_callTy uC_int rfl T.n_int (by decide +kernel) (pa_cons (pe_op op_pow (pv 6) pe_int) pa_nil)) (pv 5))) (pg_sub (pv 0) pe_int set_list))))))) pss_nil)))))))), ?_⟩)
  · obtain ⟨a, _, _, rfl, _⟩ := h
    rfl
  · obtain ⟨st, c, ns, rfl, ⟨n, l, m, S⟩, hQ⟩ := h
    refine q_par (ea_cons (S.g0 rfl) (ea_cons (S.g1 rfl) ea_nil)) fun H1 e1 => ?_
    have S1 := S.ex e1
    have x1 : Xs st H H1 := e1.xs
    have hlen : ∀ {σ : L2.St} {H' : Hp}, St4 K H' st c ns n l m → σ[1]? = some (some (.ref c)) → Ev (tCB (rLenS K) (tCons (tVar 1) tNil)) σ H' (.int ((ns.map V.int).length : Int)) := fun S h => ev_len (ev_var h) S.cs
    refine q_asg (ev_add (ev_mul ev_c (ev_var rfl) (.inl ⟨by decide, by decide⟩)) ev_c) fun H2 e2 => ?_
    have S2 := S1.ex e2
    have x2 := x1.trans e2.xs
    have hn : ((ns.map V.int).length : Int) ≤ 63 := by have := S.len; simp; omega
    generalize hL : ((ns.map V.int).length : Int) = L at hn hlen
    refine q_ifAsg (v := .int (if 0 < L then 104729 * n.fdiv L + ns.getD (n.fmod L).toNat 0 else 31 * n + 7)) (et_test (ev_gt (hlen S2 rfl) ev_c)) (fun hb => ?_) (fun hb => ?_) fun H3 e3 => ?_
    · have hpos : 0 < L := of_decide_eq_true hb
      have f := fm_pos n hpos
      rw [if_pos hpos]
      refine ev_add (ev_mul ev_c (ev_fdiv (ev_var rfl) (hlen S2 rfl) ⟨by omega, by omega⟩) (.inl ⟨by decide, by decide⟩)) (ev_ixL (ev_var rfl) (ev_mod (ev_int (ev_var rfl)) (hlen S2 rfl) (by omega)) S2.cs (at_int ns f.1 ?_))
      have : L = ns.length := by rw [← hL]; simp
      omega
    · rw [if_neg (of_decide_eq_false hb)]
      rfl
    generalize (if 0 < L then 104729 * n.fdiv L + ns.getD (n.fmod L).toNat 0 else 31 * n + 7) = seed
    have S3 := S2.ex e3
    have x3 := x2.trans e3.xs
    refine q_st (S3.p1 rfl (ev_add (ev_var rfl) ev_c) fun H4 x4 S4 => ?_)
    refine q_st (S4.p3 rfl (ev_orV (ev_ge (ev_var rfl) (ev_len (ev_var rfl) S4.cs)) fun _ => ev_lt (ev_var rfl) (ev_pow ev_c ev_c ⟨by decide, by decide, by decide⟩)) fun H5 x5 S5 => ?_)
    refine q_st (S5.p2 rfl (ev_sub (ev_var rfl) (ev_pow ev_c ev_c ⟨by decide, by decide, by decide⟩)) fun H6 x6 S6 => ?_)
    have x36 := ((x3.trans x4).trans x5).trans x6
    refine s_if (et_B (S6.g3 rfl)) (fun hb H7 e7 => ?_) (fun hb H7 e7 => hQ _ (x36.trans e7.xs) ⟨_, _, _, S6.ex e7⟩)
    refine q_st ((S6.ex e7).p2 rfl ev_c fun H8 x8 S8 => ?_)
    have x38 := (x36.trans e7.xs).trans x8
    refine s_forET (xs := primes) (ea_cons ev_c (ea_cons ev_c (ea_cons ev_c (ea_cons ev_c (ea_cons ev_c ea_nil))))) (by decide)
      (fun p k σ' H' => ∃ (va vb vc : Option V) (l' : Int) (m' : Bool), σ' = [some (.ref st), some (.ref c), some (.int n), some (.int seed), va, vb, vc] ∧ St4 K H' st c ns (n + 1) l' m' ∧ Xs st H H' ∧ p ≠ st ∧ SqT K H' p primes)
      (fun p H9 hp e9 h9 => ⟨_, _, _, _, _, rfl, S8.ex e9, x38.trans e9.xs, Ne.symm (ne_of_none S8.st hp), st_of h9⟩) (fun p k σ' H' _ ⟨_, _, _, _, _, _, _, _, _, hT⟩ => hT) ?_ ?_
    · intro p k x σ' H' hx ⟨va, vb, vc, l', m', hσ, S9, x9, hp, hT⟩ H10 e10
      subst hσ
      obtain ⟨hk, pr, rfl, p0, p1⟩ := primes_at hx
      have S10 := S9.ex e10
      refine q_asg (ev_mod (ev_int (ev_mul (ev_add (ev_add (ev_var rfl) (ev_mul (ev_mul ev_c (ev_var rfl) (.inl ⟨by decide, by decide⟩)) (ev_var rfl) (.inr ⟨by omega, by omega⟩))) (ev_mul ev_c (ev_var rfl) (.inl ⟨by decide, by decide⟩)))
        (ev_add ev_c (ev_mul ev_c (ev_var rfl) (.inl ⟨by decide, by decide⟩))) (.inr ⟨by omega, by omega⟩))) (ev_var rfl) (by omega)) fun H11 e11 => ?_
      have S11 := S10.ex e11
      have f := fm_pos ((seed + 10007 * (k : Int) * (k : Int) + 101 * (k : Int)) * (48271 + 2 * (k : Int))) p0
      refine S11.p2 rfl (ev_add (ev_mul (S11.g2 rfl) (ev_var rfl) (.inr ⟨by omega, by omega⟩)) (ev_mod (ev_int (ev_pow (ev_var rfl) ev_c ⟨by decide, by decide, by omega⟩)) (ev_var rfl) (by omega))) fun H12 x12 S12 => ?_
      exact ⟨_, _, _, _, _, rfl, S12, ((x9.trans e10.xs).trans e11.xs).trans x12, hp, x12.sqT hp (ex_t (e10.trans e11) hT)⟩
    · intro p σ' H' ⟨va, vb, vc, l', m', hσ, S9, x9, hp, hT⟩
      exact hQ _ x9 ⟨_, _, _, S9⟩
def spTake (K : PySem.W.Frag) : Sp := fun vs H Q _ => ∃ (s c : Addr) (ns : List Int) (many : Int), vs = [.ref s, .int many] ∧ 0 < many ∧ many ≤ 100000 ∧ StX K H s c ns ∧ ∀ (d : Int) H', 0 ≤ d → d < many → Xs s H H' → StX K H' s c ns → Q (.int d) H'
theorem ok_take (T : Txt P K mg) : FnOk P w K mg base CX0 2 T.a_take T.d_take ["_law_state", "_law_many"] (spTake K) := by
  refine T.F_take.ok sc_take (fun vs H Q E h => ?_) (fun cdv A outer s H vs Q E hr h => ⟨_, PSs.nox (pss_cons (ps_set (i := 2) sc_take.nd rfl (Or.inl rfl) pe_int) (pss_cons (ps_while PassesOwn.never (PW.pt (pw_and (pt_cmpR op_lt (pv 2) pe_int (nomark _)) (pw_and1 (PW.pt (pw_or (pt_cmpR (uEq K (hu64 hr)) (pe_ix (uIx K) (pv 0) pe_int (fun _ _ => rfl)) pe_int (nomark _)) (pw_or1 (PW.pt (pw_and (pt_val (pe_ix (uIx K) (pv 0) pe_int (fun _ _ => rfl))) (pw_and1 (pt_cmpR op_lt (pe_ix (uIx K) (pv 0) pe_int (fun _ _ => rfl)) (pe_op uMul (pv 1) pe_int) (nomark _))))))))))) (pss_cons (ps_expr (pe_call (ok_fill T) (hr.mono (by decide)) rfl T.g_fill T.F_fill.kp T.b_fill .nil pass0 (pa_cons (pv 0) pa_nil))) (pss_cons (ps_aug (i := 2) sc_take.nd rfl (Or.inl rfl) pe_int ip_add) (pss_one (ps_if (PW.pt (pw_and (pt_val (pe_ix (uIx K) (pv 0) pe_int (fun _ _ => rfl))) (pw_and1 (pt_cmpR op_lt (pe_ix (uIx K) (pv 0) pe_int (fun _ _ => rfl)) (pe_op uMul (pv 1) pe_int) (nomark _))))) (pss_one (ps_asg (pe_op (uAdd K) (pe_ix (uIx K) (pv 0) pe_int (fun _ _ => rfl)) (pe_op uMul (pe_op uMul (pv 1) pe_int) (pe_op (uAdd K) pe_int (pe_op op_modN (pe_callTy uC_int rfl T.n_int (by decide +kernel) (pa_cons (pe_ix (uIx K) (pv 0) pe_int (fun _ _ => rfl)) pa_nil)) pe_int)))) (pg_sub (pv 0) pe_int set_list))) pss_nil))))) (pss_cons (ps_set (i := 3) sc_take.nd rfl (Or.inl rfl) (pe_op op_modN (pe_callTy uC_int rfl T.n_int (by decide +kernel) (pa_cons (pe_ix (uIx K) (pv 0) pe_int (fun _ _ => rfl)) pa_nil)) (pv 1))) (pss_cons (ps_asg (pe_op op_fdivN (pe_ix (uIx K) (pv 0) pe_int (fun _ _ => rfl)) (pv 1)) (pg_sub (pv 0) pe_int set_list)) (pss_one (ps_ret (pv 3))))))), ?_⟩)
  · obtain ⟨a, _, _, _, rfl, _⟩ := h
    rfl
  · obtain ⟨st, c, ns, many, rfl, m0, m1, S, hQ⟩ := h
    refine q_asg ev_c fun H1 e1 => ?_
    have sm : ∀ {σ : L2.St} {H' : Hp}, σ[1]? = some (some (.int many)) → Ev (tOp rMulU (tVar 1) (tC (.int 4096))) σ H' (.int (many * 4096)) := fun h => ev_mul (ev_var h) ev_c (.inr ⟨by decide, by decide⟩)
    refine q_while (fun m σ' H' => ∃ laps : Nat, m = 64 - laps ∧ laps ≤ 64 ∧ σ' = [some (.ref st), some (.int many), some (.int (laps : Int)), none] ∧ StX K H' st c ns ∧ Xs st H H') 64 ⟨0, rfl, by decide, rfl, S.ex e1, e1.xs⟩ ?_
    rintro m σ' H' ⟨laps, rfl, hl, rfl, ⟨n, l, mx, S⟩, x⟩
    refine ⟨_, et_and (et_test (ev_lt (ev_var rfl) ev_c)) fun _ => et_or (et_test (ev_eq (S.g2 rfl) ev_c rfl)) fun _ => et_and (et_B (S.g3 rfl)) fun _ => et_test (ev_lt (S.g2 rfl) (sm rfl)), fun hb H2 e2 => ?_, fun _ H2 e2 => ?_⟩
    · have hlt : laps < 64 := by
        have z := (Bool.and_eq_true_iff.mp hb).1
        have := of_decide_eq_true z
        omega
      refine ⟨fun σ2 H2 => σ2 = [some (.ref st), some (.int many), some (.int ((laps + 1 : Nat) : Int)), none] ∧ StX K H2 st c ns ∧ Xs st H H2, fun σ2 H3 ⟨h1, h2, h3⟩ => ⟨64 - (laps + 1), by omega, laps + 1, rfl, hlt, h1, h2, h3⟩, ?_⟩
      refine q_st ⟨_, rfl, st, c, ns, rfl, ⟨_, _, _, S.ex e2⟩, fun H3 x3 ⟨n, l, mx, S3⟩ => ?_⟩
      refine q_aug rfl ev_c fun H4 e4 => ?_
      have S4 := S3.ex e4
      have x4 := ((x.trans e2.xs).trans x3).trans e4.xs
      refine s_if (et_and (et_B (S4.g3 rfl)) fun _ => et_test (ev_lt (S4.g2 rfl) (sm rfl))) (fun hb H5 e5 => ?_) (fun hb H5 e5 => ⟨rfl, ⟨_, _, _, S4.ex e5⟩, x4.trans e5.xs⟩)
      have S5 := S4.ex e5
      have f := fm_pos l (b := 4093) (by decide)
      refine S5.p2 rfl (ev_add (S5.g2 rfl) (ev_mul (sm rfl) (ev_add ev_c (ev_mod (ev_int (S5.g2 rfl)) ev_c (by decide))) (.inr ⟨by omega, by omega⟩))) fun H6 x6 S6 => ?_
      exact ⟨rfl, ⟨_, _, _, S6⟩, (x4.trans e5.xs).trans x6⟩
    · have S2 := S.ex e2
      refine q_asg (ev_mod (ev_int (S2.g2 rfl)) (ev_var rfl) (by omega)) fun H3 e3 => ?_
      have S3 := S2.ex e3
      refine q_st (S3.p2 rfl (ev_fdiv (S3.g2 rfl) (ev_var rfl) ⟨by omega, by omega⟩) fun H4 x4 S4 => ?_)
      have f := fm_pos l m0
      exact s_ret (ev_var rfl) fun H5 e5 => hQ _ _ f.1 f.2 ((((x.trans e2.xs).trans e3.xs).trans x4).trans e5.xs) ⟨_, _, _, S4.ex e5⟩
end
end Lw
namespace Lw
open PySem PySem.Spec PyProof.Rows L2 Evl
section
variable {P : Program} {w : World} {K : PySem.W.Frag} {mg : Str → Option Value} {base : Heap}
def spOne (K : PySem.W.Frag) : Sp := fun vs H Q _ => ∃ (s c : Addr) (ns : List Int) (a : Addr) (xs : List V), vs = [.ref s, .ref a] ∧ a ≠ s ∧ (SqL K H a xs ∨ SqT K H a xs) ∧ 0 < xs.length ∧ xs.length ≤ 100000 ∧ StX K H s c ns ∧ ∀ (i : Nat) x H', xs[i]? = some x → Xs s H H' → StX K H' s c ns → Q x H'
theorem ok_one (T : Txt P K mg) : FnOk P w K mg base CX0 3 T.a_one T.d_one ["_law_state", "_law_things"] (spOne K) := by
  refine T.F_one.ok sc_one (fun vs H Q E h => ?_) (fun cdv A outer s H vs Q E hr h => ⟨_, PSs.nox (pss_one (ps_ret (pe_ix (uIx K) (pv 1) (pe_call (ok_take T) (hr.mono (by decide)) rfl T.g_take T.F_take.kp T.b_take .nil pass0 (pa_cons (pv 0) (pa_cons (pe_callB (u_len K) rfl T.n_len (by decide +kernel) (pa_cons (pv 1) pa_nil)) pa_nil))) (fun _ _ => rfl)))), ?_⟩)
  · obtain ⟨a, _, _, _, _, rfl, _⟩ := h
    rfl
  · obtain ⟨st, c, ns, a, xs, rfl, hne, hx, h0, h1, S, hQ⟩ := h
    refine ⟨_, rfl, _, rfl, _, rfl, a, xs, rfl, hx, st, c, ns, (xs.length : Int), rfl, by omega, by omega, S, fun d H' d0 d1 x S' => ?_⟩
    obtain ⟨j, rfl⟩ := Int.eq_ofNat_of_zero_le d0
    have hj : j < xs.length := by omega
    have hat : atI xs (j : Int) = some xs[j] := by
      unfold atI
      rw [ixN_nat hj]
      simp [hj]
    have hi : xs[j]? = some xs[j] := by simp [hj]
    rcases hx with hx | hx
    · exact .inl ⟨a, xs, (j : Int), xs[j], rfl, rfl, x.sqL hne hx, hat, hQ j _ _ hi x S'⟩
    · exact .inr (.inl ⟨a, xs, (j : Int), xs[j], rfl, rfl, x.sqT hne hx, hat, hQ j _ _ hi x S'⟩)
/-- the same data, of a nesting below n -/
inductive Sm (K : PySem.W.Frag) (H : Hp) : Nat → V → V → Prop where
  | int (n : Nat) (i : Int) : Sm K H n (.int i) (.int i)
  | bl (n : Nat) (b : Bool) : Sm K H n (.bl b) (.bl b)
  | str (n : Nat) (x : Str) : Sm K H n (.str x) (.str x)
  | non (n : Nat) : Sm K H n .non .non
  | dK (n : Nat) {a b : Addr} {ks ls : List (Key × V)} (h1 : H a = some (.dK ks)) (h2 : H b = some (.dK ls)) (he : ∀ H', Ex H H' → ∃ m, m ≤ 60 ∧ EqR K H' (EqV K H' m) (.ref a) (.ref b)) : Sm K H n (.ref a) (.ref b)
  | lst {n : Nat} {a b : Addr} {xs ys : List V} (h1 : SqL K H a xs) (h2 : SqL K H b ys) (hl : xs.length = ys.length) (hz : xs.length ≤ 40000) (he : ∀ (i : Nat) x y, xs[i]? = some x → ys[i]? = some y → Sm K H n x y) : Sm K H (n + 1) (.ref a) (.ref b)
  | tup {n : Nat} {a b : Addr} {xs ys : List V} (h1 : SqT K H a xs) (h2 : SqT K H b ys) (hl : xs.length = ys.length) (hz : xs.length ≤ 40000) (he : ∀ (i : Nat) x y, xs[i]? = some x → ys[i]? = some y → Sm K H n x y) : Sm K H (n + 1) (.ref a) (.ref b)
theorem Sm.ex {H H1 : Hp} (e : Ex H H1) {n : Nat} {x y : V} (h : Sm K H n x y) : Sm K H1 n x y := by
  induction h with
  | int n i => exact .int n i
  | bl n b => exact .bl n b
  | str n x => exact .str n x
  | non n => exact .non n
  | dK n h1 h2 he => exact .dK n (e _ _ h1) (e _ _ h2) fun H' e' => he H' (e.trans e')
  | lst h1 h2 hl hz he ih => exact .lst (ex_l e h1) (ex_l e h2) hl hz ih
  | tup h1 h2 hl hz he ih => exact .tup (ex_t e h1) (ex_t e h2) hl hz ih
def spSame (K : PySem.W.Frag) (n : Nat) : Sp := fun vs H Q _ => ∃ x y, vs = [x, y] ∧ Sm K H n x y ∧ ∀ H', Ex H H' → Q (.bl true) H'
theorem all_true (n : Nat) : ((List.range n).map fun _ => true).all id = true := by simp
theorem same_get {K : PySem.W.Frag} {n : Nat} {H : Hp} {x y : V} (h : Sm K H n x y) : SpV (spSame K n) ([x, y] ++ []) H (.bl true) := fun H1 e Q q E => ⟨x, y, rfl, h.ex e, q⟩
/-- below nesting n: what a call within may promise -/
def spSameR (K : PySem.W.Frag) : Nat → Sp
  | 0 => fun _ _ _ _ => False
  | n + 1 => spSame K n
theorem ok_sameR (T : Txt P K mg) (n : Nat) : FnOk P w K mg base CX0 n T.a_same T.d_same ["_law_found", "_law_due"] (spSameR K n) := by
  induction n with
  | zero => exact ⟨fun _ _ _ _ h => h.elim, fun _ _ _ _ _ _ _ _ _ _ _ _ _ h => h.elim⟩
  | succ n ih =>
    refine T.F_same.ok sc_same (fun vs H Q E h => ?_) (fun cdv A outer s H vs Q E hr h => ?_)
    · obtain ⟨x, y, rfl, _⟩ := h
      rfl
    · obtain ⟨x, y, rfl, hs, hQ⟩ := h
      refine ⟨_, PSs.nox (pss_cons (ps_if (pt_val (pe_callB (u_isinstance K) rfl T.n_isinstance (by decide +kernel) (pa_cons (pv 1) (pa_cons (pe_tup (pa_cons (pe_bltn (v := .ty "list") rfl T.n_list (by decide +kernel) rfl) (pa_cons (pe_bltn (v := .ty "tuple") rfl T.n_tuple (by decide +kernel) rfl) pa_nil))) pa_nil)))) (pss_cons (ps_if (PW.pt (pw_or (pt_cmpR (uNe K (hu64 hr)) (pe_callB (u_isinstance K) rfl T.n_isinstance (by decide +kernel) (pa_cons (pv 0) (pa_cons (pe_bltn (v := .ty "list") rfl T.n_list (by decide +kernel) rfl) pa_nil))) (pe_callB (u_isinstance K) rfl T.n_isinstance (by decide +kernel) (pa_cons (pv 1) (pa_cons (pe_bltn (v := .ty "list") rfl T.n_list (by decide +kernel) rfl) pa_nil))) (nomark _)) (pw_or1 (pt_cmpR (uNe K (hu64 hr)) (pe_callB (u_isinstance K) rfl T.n_isinstance (by decide +kernel) (pa_cons (pv 0) (pa_cons (pe_bltn (v := .ty "tuple") rfl T.n_tuple (by decide +kernel) rfl) pa_nil))) (pe_callB (u_isinstance K) rfl T.n_isinstance (by decide +kernel) (pa_cons (pv 1) (pa_cons (pe_bltn (v := .ty "tuple") rfl T.n_tuple (by decide +kernel) rfl) pa_nil))) (nomark _))))) (pss_one (ps_ret pe_bl)) pss_nil) (pss_one (ps_ret (pe_and (pe_cmpR (uEq K (hu64 hr)) (pe_callB (u_len K) rfl T.n_len (by decide +kernel) (pa_cons (pv 0) pa_nil)) (pe_callB (u_len K) rfl T.n_len (by decide +kernel) (pa_cons (pv 1) pa_nil)) (nomark _)) (pe_one (pe_callB (cr_all rfl) rfl T.n_all (by decide +kernel) (pa_cons (pe_lc (own := [("_law_a", 2), ("_law_b", 3)]) (g := gTup K 2 (gCons (gName 2) (gCons (gName 3) gNil))) rfl sc_same.nd (RZ.pi_zipA rfl T.n_zip (pa_cons (pv 0) (pa_cons (pv 1) pa_nil))) (blkOk_by (N := ["_law_found", "_law_due", "_law_a", "_law_b"]) (sc := defScope s_same) (by decide +kernel)) (fun _ _ _ _ _ => (pg_tup rfl (pgs_cons (pg_name (i := 2) sc_same.nd rfl (Or.inl rfl)) (pgs_cons (pg_name (i := 3) sc_same.nd rfl (Or.inl rfl)) pgs_nil)))) (fun _ _ _ _ _ => pts_nil) (fun _ _ _ _ _ => (pe_call ih hr rfl T.g_same T.F_same.kp T.b_same .nil pass0 (pa_cons (pv 2) (pa_cons (pv 3) pa_nil))))) pa_nil))))))) pss_nil) (pss_cons (ps_if (pt_val (pe_callB (u_isinstance K) rfl T.n_isinstance (by decide +kernel) (pa_cons (pv 1) (pa_cons (pe_bltn (v := .ty "int") rfl T.n_int (by decide +kernel) rfl) pa_nil)))) (pss_one (ps_ret (pe_and (pe_callB (u_isinstance K) rfl T.n_isinstance (by decide +kernel) (pa_cons (pv 0) (pa_cons (pe_bltn (v := .ty "int") rfl T.n_int (by decide +kernel) rfl) pa_nil))) (pe_and (pe_cmpR (uEq K (hu64 hr)) (pe_callB (u_isinstance K) rfl T.n_isinstance (by decide +kernel) (pa_cons (pv 0) (pa_cons (pe_bltn (v := .ty "bool") rfl T.n_bool (by decide +kernel) rfl) pa_nil))) (pe_callB (u_isinstance K) rfl T.n_isinstance (by decide +kernel) (pa_cons (pv 1) (pa_cons (pe_bltn (v := .ty "bool") rfl T.n_bool (by decide +kernel) rfl) pa_nil))) (nomark _)) (pe_one (pe_cmpR (uEq K (hu64 hr)) (pv 0) (pv 1) (nomark _))))))) pss_nil) (pss_one (ps_ret (pe_and (pe_cmpR op_isBl (pe_callB (u_isinstance K) rfl T.n_isinstance (by decide +kernel) (pa_cons (pv 0) (pa_cons (pe_tup (pa_cons (pe_bltn (v := .ty "bool") rfl T.n_bool (by decide +kernel) rfl) (pa_cons (pe_bltn (v := .ty "int") rfl T.n_int (by decide +kernel) rfl) (pa_cons (pe_bltn (v := .ty "list") rfl T.n_list (by decide +kernel) rfl) (pa_cons (pe_bltn (v := .ty "tuple") rfl T.n_tuple (by decide +kernel) rfl) pa_nil))))) pa_nil))) pe_bl (nomark _)) (pe_one (pe_cmpR (uEq K (hu64 hr)) (pv 0) (pv 1) (nomark _)))))))), ?_⟩
      have tv : ∀ {σ : L2.St} {H : Hp}, EvA (tCons (tC (.ty "list")) (tCons (tC (.ty "tuple")) tNil)) σ H (["list", "tuple"].map V.ty) := ea_cons ev_c (ea_cons ev_c ea_nil)
      have tw : ∀ {σ : L2.St} {H : Hp}, EvA (tCons (tC (.ty "bool")) (tCons (tC (.ty "int")) (tCons (tC (.ty "list")) (tCons (tC (.ty "tuple")) tNil)))) σ H (["bool", "int", "list", "tuple"].map V.ty) := ea_cons ev_c (ea_cons ev_c (ea_cons ev_c (ea_cons ev_c ea_nil)))
      have rv_isB : ∀ {H : Hp}, RV rIsB (.bl false) (.bl false) H (.bl true) := fun H1 _ Q q => ⟨false, false, rfl, rfl, q H1 (Ex.refl H1)⟩
      cases hs with
      | int n i =>
        refine q_when (et_B (ev_isT ["list", "tuple"] (ev_var rfl) tv (by decide) (t := "int") (.int i) (b := false) (by decide +kernel))) (fun h => nomatch h) fun _ H1 e1 => ?_
        refine q_when (et_B (ev_is1 (ev_var rfl) (t := "int") (.int i) (b := true) (by decide +kernel))) (fun _ H2 e2 => ?_) (fun h => nomatch h)
        exact s_ret (ev_is (ev_andV (ev_is1 (ev_var rfl) (t := "int") (.int i) (b := true) (by decide +kernel)) fun _ => ev_andV (ev_eq (ev_is1 (ev_var rfl) (t := "int") (.int i) (b := false) (by decide +kernel)) (ev_is1 (ev_var rfl) (t := "int") (.int i) (b := false) (by decide +kernel)) rfl) fun _ => ev_eq (ev_var rfl) (ev_var rfl) rfl) (by simp)) fun H3 e3 => hQ H3 ((e1.trans e2).trans e3)
      | bl n b =>
        refine q_when (et_B (ev_isT ["list", "tuple"] (ev_var rfl) tv (by decide) (t := "bool") (.bl b) (b := false) (by decide +kernel))) (fun h => nomatch h) fun _ H1 e1 => ?_
        refine q_when (et_B (ev_is1 (ev_var rfl) (t := "bool") (.bl b) (b := true) (by decide +kernel))) (fun _ H2 e2 => ?_) (fun h => nomatch h)
        exact s_ret (ev_is (ev_andV (ev_is1 (ev_var rfl) (t := "bool") (.bl b) (b := true) (by decide +kernel)) fun _ => ev_andV (ev_eq (ev_is1 (ev_var rfl) (t := "bool") (.bl b) (b := true) (by decide +kernel)) (ev_is1 (ev_var rfl) (t := "bool") (.bl b) (b := true) (by decide +kernel)) rfl) fun _ => ev_eq (ev_var rfl) (ev_var rfl) rfl) (by simp)) fun H3 e3 => hQ H3 ((e1.trans e2).trans e3)
      | str n z =>
        refine q_when (et_B (ev_isT ["list", "tuple"] (ev_var rfl) tv (by decide) (t := "str") (Kn.str z) (b := false) (by decide +kernel))) (fun h => nomatch h) fun _ H1 e1 => ?_
        refine q_when (et_B (ev_is1 (ev_var rfl) (t := "str") ((Kn.str z).ex e1) (b := false) (by decide +kernel))) (fun h => nomatch h) fun _ H2 e2 => ?_
        exact s_ret (ev_is (ev_andV (ev_op (ev_isT ["bool", "int", "list", "tuple"] (ev_var rfl) tw (by decide) (t := "str") (((Kn.str z).ex e1).ex e2) (b := false) (by decide +kernel)) ev_c rv_isB) fun _ => ev_eq (ev_var rfl) (ev_var rfl) rfl) (by simp)) fun H3 e3 => hQ H3 ((e1.trans e2).trans e3)
      | non n =>
        refine q_when (et_B (ev_isT ["list", "tuple"] (ev_var rfl) tv (by decide) (t := "NoneType") Kn.non (b := false) (by decide +kernel))) (fun h => nomatch h) fun _ H1 e1 => ?_
        refine q_when (et_B (ev_is1 (ev_var rfl) (t := "NoneType") (Kn.non.ex e1) (b := false) (by decide +kernel))) (fun h => nomatch h) fun _ H2 e2 => ?_
        exact s_ret (ev_is (ev_andV (ev_op (ev_isT ["bool", "int", "list", "tuple"] (ev_var rfl) tw (by decide) (t := "NoneType") ((Kn.non.ex e1).ex e2) (b := false) (by decide +kernel)) ev_c rv_isB) fun _ => ev_eq (ev_var rfl) (ev_var rfl) rfl) (by simp)) fun H3 e3 => hQ H3 ((e1.trans e2).trans e3)
      | dK n h1 h2 he =>
        refine q_when (et_B (ev_isT ["list", "tuple"] (ev_var rfl) tv (by decide) (t := "dict") (Kn.dK h2) (b := false) (by decide +kernel))) (fun h => nomatch h) fun _ H1 e1 => ?_
        refine q_when (et_B (ev_is1 (ev_var rfl) (t := "dict") ((Kn.dK h2).ex e1) (b := false) (by decide +kernel))) (fun h => nomatch h) fun _ H2 e2 => ?_
        exact s_ret (ev_is (ev_andV (ev_op (ev_isT ["bool", "int", "list", "tuple"] (ev_var rfl) tw (by decide) (t := "dict") (((Kn.dK h1).ex e1).ex e2) (b := false) (by decide +kernel)) ev_c rv_isB) fun _ => ev_eqV (ev_var rfl) (ev_var rfl) fun H3 e3 => he H3 ((e1.trans e2).trans e3)) (by simp)) fun H3 e3 => hQ H3 ((e1.trans e2).trans e3)
      | lst h1 h2 hl hz he =>
        have k1 : ∀ {H1 : Hp}, Ex H H1 → Kn K H1 (.ref _) "list" := fun e => (Kn.lst h1).ex e
        have k2 : ∀ {H1 : Hp}, Ex H H1 → Kn K H1 (.ref _) "list" := fun e => (Kn.lst h2).ex e
        refine q_if (et_B (ev_isT ["list", "tuple"] (ev_var rfl) tv (by decide) (k2 (Ex.refl H)) (b := true) (by decide +kernel))) (fun _ H1 e1 => ?_) (fun h => nomatch h)
        refine q_when (et_is (et_or (et_test (ev_ne (ev_is1 (ev_var rfl) (k1 e1) (b := true) (by decide +kernel)) (ev_is1 (ev_var rfl) (k2 e1) (b := true) (by decide +kernel)) rfl)) fun _ => et_test (ev_ne (ev_is1 (ev_var rfl) (k1 e1) (b := false) (by decide +kernel)) (ev_is1 (ev_var rfl) (k2 e1) (b := false) (by decide +kernel)) rfl)) (b := false) (by simp)) (fun h => nomatch h) fun _ H2 e2 => ?_
        have e02 := e1.trans e2
        refine s_ret (ev_is (ev_andV (ev_eq (ev_len (ev_var rfl) (ex_l e02 h1)) (ev_len (ev_var rfl) (ex_l e02 h2)) rfl) fun _ => ev_all (bs := (List.range _).map fun _ => true) (by
          rw [List.map_map]
          exact el_zip (fun _ => .bl true) (ea_cons (ev_var rfl) (ea_cons (ev_var rfl) ea_nil)) (.inl ⟨ex_l e02 h1, ex_l e02 h2⟩) hl hz (fun _ _ => rfl) fun k x y H3 e3 hx hy => ev_call (ea_cons (ev_var rfl) (ea_cons (ev_var rfl) ea_nil)) (same_get ((he k x y hx hy).ex (e02.trans e3))))) (by rw [all_true, hl]; simp)) fun H3 e3 => hQ H3 (e02.trans e3)
      | tup h1 h2 hl hz he =>
        have k1 : ∀ {H1 : Hp}, Ex H H1 → Kn K H1 (.ref _) "tuple" := fun e => (Kn.tup h1).ex e
        have k2 : ∀ {H1 : Hp}, Ex H H1 → Kn K H1 (.ref _) "tuple" := fun e => (Kn.tup h2).ex e
        refine q_if (et_B (ev_isT ["list", "tuple"] (ev_var rfl) tv (by decide) (k2 (Ex.refl H)) (b := true) (by decide +kernel))) (fun _ H1 e1 => ?_) (fun h => nomatch h)
        refine q_when (et_is (et_or (et_test (ev_ne (ev_is1 (ev_var rfl) (k1 e1) (b := false) (by decide +kernel)) (ev_is1 (ev_var rfl) (k2 e1) (b := false) (by decide +kernel)) rfl)) fun _ => et_test (ev_ne (ev_is1 (ev_var rfl) (k1 e1) (b := true) (by decide +kernel)) (ev_is1 (ev_var rfl) (k2 e1) (b := true) (by decide +kernel)) rfl)) (b := false) (by simp)) (fun h => nomatch h) fun _ H2 e2 => ?_
        have e02 := e1.trans e2
        refine s_ret (ev_is (ev_andV (ev_eq (ev_lenT (ev_var rfl) (ex_t e02 h1)) (ev_lenT (ev_var rfl) (ex_t e02 h2)) rfl) fun _ => ev_all (bs := (List.range _).map fun _ => true) (by
          rw [List.map_map]
          exact el_zip (fun _ => .bl true) (ea_cons (ev_var rfl) (ea_cons (ev_var rfl) ea_nil)) (.inr ⟨ex_t e02 h1, ex_t e02 h2⟩) hl hz (fun _ _ => rfl) fun k x y H3 e3 hx hy => ev_call (ea_cons (ev_var rfl) (ea_cons (ev_var rfl) ea_nil)) (same_get ((he k x y hx hy).ex (e02.trans e3))))) (by rw [all_true, hl]; simp)) fun H3 e3 => hQ H3 (e02.trans e3)
theorem ok_same (T : Txt P K mg) (n : Nat) : FnOk P w K mg base CX0 (n + 1) T.a_same T.d_same ["_law_found", "_law_due"] (spSame K n) := ok_sameR T (n + 1)
end
end Lw
namespace Lw
open PySem PySem.Spec PyProof.Rows L2 Evl
section
variable {P : Program} {w : World} {K : PySem.W.Frag} {mg : Str → Option Value} {base : Heap}
/-! ### lists of made errors -/
/-- v is an error of C whose y holds x -/
def XA (C : Addr) (y : Str) (x : V) (v : V) (H : Hp) : Prop := ∃ e d, v = .ref e ∧ H e = some (exo e C (some d)) ∧ H d = some (.xd [(y, x)])
theorem XA.ex {C : Addr} {y : Str} {x v : V} {H H1 : Hp} (h : XA C y x v H) (e : Ex H H1) : XA C y x v H1 := by
  obtain ⟨a, d, h1, h2, h3⟩ := h
  exact ⟨a, d, h1, e _ _ h2, e _ _ h3⟩
inductive AllX (H : Hp) (x : V) : List (Addr × Str) → List V → Prop where
  | nil : AllX H x [] []
  | cons {C : Addr} {y : Str} {v : V} {cs : List (Addr × Str)} {vs : List V} (h : XA C y x v H) (r : AllX H x cs vs) : AllX H x ((C, y) :: cs) (v :: vs)
theorem AllX.ex {H H1 : Hp} {x : V} {cs : List (Addr × Str)} {vs : List V} (h : AllX H x cs vs) (e : Ex H H1) : AllX H1 x cs vs := by
  induction h with
  | nil => exact .nil
  | cons h r ih => exact .cons (h.ex e) ih
theorem AllX.append {H : Hp} {x : V} {cs ds : List (Addr × Str)} {vs ws : List V} (h : AllX H x cs vs) (k : AllX H x ds ws) : AllX H x (cs ++ ds) (vs ++ ws) := by
  induction h with
  | nil => exact k
  | cons h r ih => exact .cons h ih
theorem AllX.len {H : Hp} {x : V} {cs : List (Addr × Str)} {vs : List V} (h : AllX H x cs vs) : vs.length = cs.length := by
  induction h with
  | nil => rfl
  | cons h r ih => simp [ih]
theorem AllX.get {H : Hp} {x : V} {cs : List (Addr × Str)} {vs : List V} (h : AllX H x cs vs) : ∀ {i : Nat} {C : Addr} {y : Str}, cs[i]? = some (C, y) → ∃ v, vs[i]? = some v ∧ XA C y x v H := by
  induction h with
  | nil => intro i C y q; simp at q
  | cons h r ih =>
    intro i C y q
    cases i with
    | zero =>
      simp at q
      obtain ⟨rfl, rfl⟩ := q
      exact ⟨_, by simp, h⟩
    | succ i =>
      obtain ⟨v, h1, h2⟩ := ih (i := i) (by simpa using q)
      exact ⟨v, by simpa using h1, h2⟩
def EvX (ta : TA) (σ : L2.St) (H : Hp) (x : V) (cs : List (Addr × Str)) : Prop := ∀ H1, Ex H H1 → ∀ Q : List V → Hp → Prop, (∀ vs H2, Ex H1 H2 → AllX H2 x cs vs → Q vs H2) → ta σ H1 Q
/-- a new list of them -/
def EvLX (te : TE) (σ : L2.St) (H : Hp) (x : V) (cs : List (Addr × Str)) : Prop := ∀ H1, Ex H H1 → ∀ Q : VK, (∀ p vs H2, H1 p = none → Ex H1 H2 → H2 p = some (.lst vs) → AllX H2 x cs vs → Q (.ref p) H2) → te σ H1 Q
section
variable {σ : L2.St} {H : Hp} {x : V} {C : Addr} {y : Str} {cs ds : List (Addr × Str)} {te : TE} {tr ta : TA} {D : Ends} {tz : TS}
theorem ex_nil : EvX tNil σ H x [] := fun H1 _ Q q => q [] H1 (Ex.refl H1) .nil
theorem ex_cons (h : Ev te σ H x) (hr : EvX tr σ H x cs) : EvX (tCons (tMkX C y (tCons te tNil)) tr) σ H x ((C, y) :: cs) := fun H1 e1 Q q =>
  h H1 e1 _ fun H2 e2 => ⟨x, rfl, fun e d he hd hne => by
    have e3 : Ex H2 (putX H2 e d C y x) := (Ex.new hd).trans (Ex.new (by rw [upd_ne (Ne.symm hne)]; exact he))
    have a : XA C y x (.ref e) (putX H2 e d C y x) := ⟨e, d, rfl, upd_same, by unfold putX; rw [upd_ne hne, upd_same]⟩
    exact hr _ ((e1.trans e2).trans e3) _ fun vs H4 e4 r => q _ H4 ((e2.trans e3).trans e4) (.cons (a.ex e4) r)⟩
theorem elx_lst (h : EvX ta σ H x cs) (hl : cs.length ≤ 100000) : EvLX (tLst ta) σ H x cs := fun H1 e1 Q q =>
  h H1 e1 _ fun vs H2 e2 r => ⟨sz_of (by rw [r.len]; exact hl), fun p hp => q p vs _ (fresh_back e2 hp) (e2.trans (Ex.new hp)) upd_same (r.ex (Ex.new hp))⟩
theorem elx_cat {p : Addr} {vs : List V} (ha : Ev te σ H (.ref p)) (hp : H p = some (.lst vs)) (r : AllX H x cs vs) (hb : EvX ta σ H x ds) (hl : cs.length + ds.length ≤ 100000) (h2 : ds.length ≤ 100000) : EvLX (tOp (rAddU K) te (tLst ta)) σ H x (cs ++ ds) := fun H1 e1 Q q =>
  ha H1 e1 _ fun H2 e2 => (elx_lst hb h2) H2 (e1.trans e2) _ fun p2 ws H3 hn e3 h3 r3 => .inr (.inl ⟨p, p2, vs, ws, rfl, rfl, ((e1.trans e2).trans e3) _ _ hp, h3, sz_of (by rw [r.len, r3.len]; exact hl), fun p4 h4 =>
    q p4 _ _ (fresh_back (e2.trans e3) h4) ((e2.trans e3).trans (Ex.new h4)) upd_same (((r.ex ((e1.trans e2).trans e3)).append r3).ex (Ex.new h4))⟩)
theorem q_asgX {i : Nat} (h : EvLX te σ H x cs) (k : ∀ p vs H1, H p = none → Ex H H1 → H1 p = some (.lst vs) → AllX H1 x cs vs → tz D (σ.set i (some (.ref p))) H1) : tSeq (tAsg te (gName i)) tz D σ H := h H (Ex.refl H) _ fun p vs H1 hp e h1 r => k p vs H1 hp e h1 r
theorem s_retX (h : EvLX te σ H x cs) (k : ∀ p vs H1, H p = none → Ex H H1 → H1 p = some (.lst vs) → AllX H1 x cs vs → D.rt (.ref p) H1) : tRet te D σ H := h H (Ex.refl H) _ fun p vs H1 hp e h1 r => k p vs H1 hp e h1 r
/-- errors[i].y -/
theorem ev_field {p : Addr} {vs : List V} {i : Nat} (h0 : σ[0]? = some (some (.ref p))) (hp : H p = some (.lst vs)) (r : AllX H x cs vs) (hc : cs[i]? = some (C, y)) (T : XfC K C) (hno : PySem.W.findIn K (.ref C) y = some none) : Ev (tXo K y (tOp (rIx K) (tVar 0) (tC (.int (i : Int))))) σ H x := by
  obtain ⟨v, hv, e, d, rfl, h1, h2⟩ := r.get hc
  have hi : i < vs.length := (List.getElem?_eq_some_iff.mp hv).1
  have ha : atI vs (i : Int) = some (.ref e) := by
    unfold atI
    rw [ixN_nat hi]
    exact hv
  intro H1 e1 Q q
  exact (ev_ixL (ev_var h0) ev_c (sq_of hp) ha) H1 e1 _ fun H2 e2 => ⟨e, C, d, [(y, x)], x, rfl, (e1.trans e2) _ _ h1, (e1.trans e2) _ _ h2, T, hno, by simp [List.lookup], q H2 e2⟩
theorem el_cat {p : Addr} {xs ys : List V} {tb : TE} (ha : Ev te σ H (.ref p)) (hp : H p = some (.lst xs)) (hb : EvL tb σ H ys) (hl : xs.length + ys.length ≤ 100000) : EvL (tOp (rAddU K) te tb) σ H (xs ++ ys) := fun H1 e1 Q q =>
  ha H1 e1 _ fun H2 e2 => hb H2 (e1.trans e2) _ fun p2 H3 hn e3 h3 => .inr (.inl ⟨p, p2, xs, ys, rfl, rfl, ((e1.trans e2).trans e3) _ _ hp, h3, sz_of hl, fun p4 h4 => q p4 _ (fresh_back (e2.trans e3) h4) ((e2.trans e3).trans (Ex.new h4)) upd_same⟩)
end
def csT (T : Txt P K mg) : List (Addr × Str) := [(T.c_BadBoxes, "thing"), (T.c_BadBox, "name"), (T.c_BadOutputs, "thing"), (T.c_BadOutput, "name"), (T.c_Ring, "name"), (T.c_BadTime, "time"), (T.c_TooLong, "time"), (T.c_BadMeaning, "meaning"), (T.c_BadNet, "net"), (T.c_BadLate, "late"), (T.c_BadTimes, "times"), (T.c_BadDistances, "distances"), (T.c_BadPeriod, "period"), (T.c_HasNet, "period"), (T.c_BadInput, "name"), (T.c_BadLag, "lag"), (T.c_BadText, "line"), (T.c_BadMany, "many")]
def spMake (T : Txt P K mg) : Sp := fun vs H Q _ => ∃ x, vs = [x] ∧ ∀ p es H', H p = none → Ex H H' → H' p = some (.lst es) → AllX H' x (csT T) es → Q (.ref p) H'
theorem ok_with_one (T : Txt P K mg) : FnOk P w K mg base CX0 3 T.a_with_one T.d_with_one ["_law_x"] (spMake T) := by
  refine T.F_with_one.ok sc_with_one (fun vs H Q E h => ?_) (fun cdv A outer s H vs Q E hr h => ⟨_, PSs.nox (pss_cons (ps_set (i := 1) sc_with_one.nd rfl (Or.inl rfl) (pe_lst (pa_cons (pe_sxk T.X_BadBoxes hr T.g_BadBoxes (pk_cons (pv 0) pk_nil)) (pa_cons (pe_sxk T.X_BadBox hr T.g_BadBox (pk_cons (pv 0) pk_nil)) (pa_cons (pe_sxk T.X_BadOutputs hr T.g_BadOutputs (pk_cons (pv 0) pk_nil)) (pa_cons (pe_sxk T.X_BadOutput hr T.g_BadOutput (pk_cons (pv 0) pk_nil)) (pa_cons (pe_sxk T.X_Ring hr T.g_Ring (pk_cons (pv 0) pk_nil)) (pa_cons (pe_sxk T.X_BadTime hr T.g_BadTime (pk_cons (pv 0) pk_nil)) pa_nil)))))))) (pss_cons (ps_set (i := 1) sc_with_one.nd rfl (Or.inl rfl) (pe_op (uAdd K) (pv 1) (pe_lst (pa_cons (pe_sxk T.X_TooLong hr T.g_TooLong (pk_cons (pv 0) pk_nil)) (pa_cons (pe_sxk T.X_BadMeaning hr T.g_BadMeaning (pk_cons (pv 0) pk_nil)) (pa_cons (pe_sxk T.X_BadNet hr T.g_BadNet (pk_cons (pv 0) pk_nil)) (pa_cons (pe_sxk T.X_BadLate hr T.g_BadLate (pk_cons (pv 0) pk_nil)) (pa_cons (pe_sxk T.X_BadTimes hr T.g_BadTimes (pk_cons (pv 0) pk_nil)) pa_nil)))))))) (pss_cons (ps_set (i := 1) sc_with_one.nd rfl (Or.inl rfl) (pe_op (uAdd K) (pv 1) (pe_lst (pa_cons (pe_sxk T.X_BadDistances hr T.g_BadDistances (pk_cons (pv 0) pk_nil)) (pa_cons (pe_sxk T.X_BadPeriod hr T.g_BadPeriod (pk_cons (pv 0) pk_nil)) (pa_cons (pe_sxk T.X_HasNet hr T.g_HasNet (pk_cons (pv 0) pk_nil)) (pa_cons (pe_sxk T.X_BadInput hr T.g_BadInput (pk_cons (pv 0) pk_nil)) (pa_cons (pe_sxk T.X_BadLag hr T.g_BadLag (pk_cons (pv 0) pk_nil)) pa_nil)))))))) (pss_one (ps_ret (pe_op (uAdd K) (pv 1) (pe_lst (pa_cons (pe_sxk T.X_BadText hr T.g_BadText (pk_cons (pv 0) pk_nil)) (pa_cons (pe_sx T.X_BadMany hr T.g_BadMany (pa_cons (pv 0) pa_nil)) pa_nil))))))))), ?_⟩)
  · obtain ⟨x, rfl, _⟩ := h
    rfl
  · obtain ⟨x, rfl, hQ⟩ := h
    refine q_asgX (elx_lst (ex_cons (ev_var rfl) (ex_cons (ev_var rfl) (ex_cons (ev_var rfl) (ex_cons (ev_var rfl) (ex_cons (ev_var rfl) (ex_cons (ev_var rfl) (ex_nil))))))) (by simp)) fun p1 v1 H1 n1 e1 h1 r1 => ?_
    refine q_asgX (elx_cat (ev_var rfl) h1 r1 (ex_cons (ev_var rfl) (ex_cons (ev_var rfl) (ex_cons (ev_var rfl) (ex_cons (ev_var rfl) (ex_cons (ev_var rfl) (ex_nil)))))) (by simp) (by simp)) fun p2 v2 H2 n2 e2 h2 r2 => ?_
    refine q_asgX (elx_cat (ev_var rfl) h2 r2 (ex_cons (ev_var rfl) (ex_cons (ev_var rfl) (ex_cons (ev_var rfl) (ex_cons (ev_var rfl) (ex_cons (ev_var rfl) (ex_nil)))))) (by simp) (by simp)) fun p3 v3 H3 n3 e3 h3 r3 => ?_
    exact s_retX (elx_cat (ev_var rfl) h3 r3 (ex_cons (ev_var rfl) (ex_cons (ev_var rfl) (ex_nil))) (by simp) (by simp)) fun p4 v4 H4 n4 e4 h4 r4 => hQ p4 v4 H4 (fresh_back ((e1.trans e2).trans e3) n4) (((e1.trans e2).trans e3).trans e4) h4 r4
theorem ok_by_place (T : Txt P K mg) : FnOk P w K mg base CX0 3 T.a_by_place T.d_by_place ["_law_x"] (spMake T) := by
  refine T.F_by_place.ok sc_by_place (fun vs H Q E h => ?_) (fun cdv A outer s H vs Q E hr h => ⟨_, PSs.nox (pss_cons (ps_set (i := 1) sc_by_place.nd rfl (Or.inl rfl) (pe_lst (pa_cons (pe_sx T.X_BadBoxes hr T.g_BadBoxes (pa_cons (pv 0) pa_nil)) (pa_cons (pe_sx T.X_BadBox hr T.g_BadBox (pa_cons (pv 0) pa_nil)) (pa_cons (pe_sx T.X_BadOutputs hr T.g_BadOutputs (pa_cons (pv 0) pa_nil)) (pa_cons (pe_sx T.X_BadOutput hr T.g_BadOutput (pa_cons (pv 0) pa_nil)) (pa_cons (pe_sx T.X_Ring hr T.g_Ring (pa_cons (pv 0) pa_nil)) (pa_cons (pe_sx T.X_BadTime hr T.g_BadTime (pa_cons (pv 0) pa_nil)) (pa_cons (pe_sx T.X_TooLong hr T.g_TooLong (pa_cons (pv 0) pa_nil)) (pa_cons (pe_sx T.X_BadMeaning hr T.g_BadMeaning (pa_cons (pv 0) pa_nil)) pa_nil)))))))))) (pss_cons (ps_set (i := 1) sc_by_place.nd rfl (Or.inl rfl) (pe_op (uAdd K) (pv 1) (pe_lst (pa_cons (pe_sx T.X_BadNet hr T.g_BadNet (pa_cons (pv 0) pa_nil)) (pa_cons (pe_sx T.X_BadLate hr T.g_BadLate (pa_cons (pv 0) pa_nil)) (pa_cons (pe_sx T.X_BadTimes hr T.g_BadTimes (pa_cons (pv 0) pa_nil)) (pa_cons (pe_sx T.X_BadDistances hr T.g_BadDistances (pa_cons (pv 0) pa_nil)) (pa_cons (pe_sx T.X_BadPeriod hr T.g_BadPeriod (pa_cons (pv 0) pa_nil)) (pa_cons (pe_sx T.X_HasNet hr T.g_HasNet (pa_cons (pv 0) pa_nil)) (pa_cons (pe_sx T.X_BadInput hr T.g_BadInput (pa_cons (pv 0) pa_nil)) pa_nil)))))))))) (pss_one (ps_ret (pe_op (uAdd K) (pv 1) (pe_lst (pa_cons (pe_sx T.X_BadLag hr T.g_BadLag (pa_cons (pv 0) pa_nil)) (pa_cons (pe_sx T.X_BadText hr T.g_BadText (pa_cons (pv 0) pa_nil)) (pa_cons (pe_sx T.X_BadMany hr T.g_BadMany (pa_cons (pv 0) pa_nil)) pa_nil))))))))), ?_⟩)
  · obtain ⟨x, rfl, _⟩ := h
    rfl
  · obtain ⟨x, rfl, hQ⟩ := h
    refine q_asgX (elx_lst (ex_cons (ev_var rfl) (ex_cons (ev_var rfl) (ex_cons (ev_var rfl) (ex_cons (ev_var rfl) (ex_cons (ev_var rfl) (ex_cons (ev_var rfl) (ex_cons (ev_var rfl) (ex_cons (ev_var rfl) (ex_nil))))))))) (by simp)) fun p1 v1 H1 n1 e1 h1 r1 => ?_
    refine q_asgX (elx_cat (ev_var rfl) h1 r1 (ex_cons (ev_var rfl) (ex_cons (ev_var rfl) (ex_cons (ev_var rfl) (ex_cons (ev_var rfl) (ex_cons (ev_var rfl) (ex_cons (ev_var rfl) (ex_cons (ev_var rfl) (ex_nil)))))))) (by simp) (by simp)) fun p2 v2 H2 n2 e2 h2 r2 => ?_
    exact s_retX (elx_cat (ev_var rfl) h2 r2 (ex_cons (ev_var rfl) (ex_cons (ev_var rfl) (ex_cons (ev_var rfl) (ex_nil)))) (by simp) (by simp)) fun p4 v4 H4 n4 e4 h4 r4 => hQ p4 v4 H4 (fresh_back (e1.trans e2) n4) ((e1.trans e2).trans e4) h4 r4
def spHeld (T : Txt P K mg) : Sp := fun vs H Q _ => ∃ p x es, vs = [.ref p] ∧ H p = some (.lst es) ∧ AllX H x (csT T) es ∧ ∀ q H', H q = none → Ex H H' → H' q = some (.lst (List.replicate 18 x)) → Q (.ref q) H'
theorem ok_held (T : Txt P K mg) : FnOk P w K mg base CX0 1 T.a_held T.d_held ["_law_errors"] (spHeld T) := by
  refine T.F_held.ok sc_held (fun vs H Q E h => ?_) (fun cdv A outer s H vs Q E hr h => ⟨_, PSs.nox (pss_cons (ps_set (i := 1) sc_held.nd rfl (Or.inl rfl) (pe_lst (pa_cons (pe_xo (pe_ix (uIx K) (pv 0) pe_int (fun _ _ => rfl))) (pa_cons (pe_xo (pe_ix (uIx K) (pv 0) pe_int (fun _ _ => rfl))) (pa_cons (pe_xo (pe_ix (uIx K) (pv 0) pe_int (fun _ _ => rfl))) (pa_cons (pe_xo (pe_ix (uIx K) (pv 0) pe_int (fun _ _ => rfl))) (pa_cons (pe_xo (pe_ix (uIx K) (pv 0) pe_int (fun _ _ => rfl))) (pa_cons (pe_xo (pe_ix (uIx K) (pv 0) pe_int (fun _ _ => rfl))) pa_nil)))))))) (pss_cons (ps_set (i := 1) sc_held.nd rfl (Or.inl rfl) (pe_op (uAdd K) (pv 1) (pe_lst (pa_cons (pe_xo (pe_ix (uIx K) (pv 0) pe_int (fun _ _ => rfl))) (pa_cons (pe_xo (pe_ix (uIx K) (pv 0) pe_int (fun _ _ => rfl))) (pa_cons (pe_xo (pe_ix (uIx K) (pv 0) pe_int (fun _ _ => rfl))) (pa_cons (pe_xo (pe_ix (uIx K) (pv 0) pe_int (fun _ _ => rfl))) (pa_cons (pe_xo (pe_ix (uIx K) (pv 0) pe_int (fun _ _ => rfl))) pa_nil)))))))) (pss_cons (ps_set (i := 1) sc_held.nd rfl (Or.inl rfl) (pe_op (uAdd K) (pv 1) (pe_lst (pa_cons (pe_xo (pe_ix (uIx K) (pv 0) pe_int (fun _ _ => rfl))) (pa_cons (pe_xo (pe_ix (uIx K) (pv 0) pe_int (fun _ _ => rfl))) (pa_cons (pe_xo (pe_ix (uIx K) (pv 0) pe_int (fun _ _ => rfl))) (pa_cons (pe_xo (pe_ix (uIx K) (pv 0) pe_int (fun _ _ => rfl))) (pa_cons (pe_xo (pe_ix (uIx K) (pv 0) pe_int (fun _ _ => rfl))) pa_nil)))))))) (pss_one (ps_ret (pe_op (uAdd K) (pv 1) (pe_lst (pa_cons (pe_xo (pe_ix (uIx K) (pv 0) pe_int (fun _ _ => rfl))) (pa_cons (pe_xo (pe_ix (uIx K) (pv 0) pe_int (fun _ _ => rfl))) pa_nil))))))))), ?_⟩)
  · obtain ⟨x, _, _, rfl, _⟩ := h
    rfl
  · obtain ⟨p, x, es, rfl, hp, r, hQ⟩ := h
    refine q_asgL (el_lst (ea_cons (ev_field (i := 0) rfl hp r rfl T.y_BadBoxes T.X_BadBoxes.noY) (ea_cons (ev_field (i := 1) rfl hp r rfl T.y_BadBox T.X_BadBox.noY) (ea_cons (ev_field (i := 2) rfl hp r rfl T.y_BadOutputs T.X_BadOutputs.noY) (ea_cons (ev_field (i := 3) rfl hp r rfl T.y_BadOutput T.X_BadOutput.noY) (ea_cons (ev_field (i := 4) rfl hp r rfl T.y_Ring T.X_Ring.noY) (ea_cons (ev_field (i := 5) rfl hp r rfl T.y_BadTime T.X_BadTime.noY) (ea_nil))))))) (by simp)) fun p1 H1 n1 e1 h1 => ?_
    have E1 := e1
    refine q_asgL (el_cat (ev_var rfl) h1 (el_lst (ea_cons (ev_field (i := 6) rfl (E1 _ _ hp) (r.ex E1) rfl T.y_TooLong T.X_TooLong.noY) (ea_cons (ev_field (i := 7) rfl (E1 _ _ hp) (r.ex E1) rfl T.y_BadMeaning T.X_BadMeaning.noY) (ea_cons (ev_field (i := 8) rfl (E1 _ _ hp) (r.ex E1) rfl T.y_BadNet T.X_BadNet.noY) (ea_cons (ev_field (i := 9) rfl (E1 _ _ hp) (r.ex E1) rfl T.y_BadLate T.X_BadLate.noY) (ea_cons (ev_field (i := 10) rfl (E1 _ _ hp) (r.ex E1) rfl T.y_BadTimes T.X_BadTimes.noY) (ea_nil)))))) (by simp)) (by simp)) fun p2 H2 n2 e2 h2 => ?_
    have E1 := e1.trans e2
    refine q_asgL (el_cat (ev_var rfl) h2 (el_lst (ea_cons (ev_field (i := 11) rfl (E1 _ _ hp) (r.ex E1) rfl T.y_BadDistances T.X_BadDistances.noY) (ea_cons (ev_field (i := 12) rfl (E1 _ _ hp) (r.ex E1) rfl T.y_BadPeriod T.X_BadPeriod.noY) (ea_cons (ev_field (i := 13) rfl (E1 _ _ hp) (r.ex E1) rfl T.y_HasNet T.X_HasNet.noY) (ea_cons (ev_field (i := 14) rfl (E1 _ _ hp) (r.ex E1) rfl T.y_BadInput T.X_BadInput.noY) (ea_cons (ev_field (i := 15) rfl (E1 _ _ hp) (r.ex E1) rfl T.y_BadLag T.X_BadLag.noY) (ea_nil)))))) (by simp)) (by simp)) fun p3 H3 n3 e3 h3 => ?_
    have E1 := (e1.trans e2).trans e3
    exact s_retL (el_cat (ev_var rfl) h3 (el_lst (ea_cons (ev_field (i := 16) rfl (E1 _ _ hp) (r.ex E1) rfl T.y_BadText T.X_BadText.noY) (ea_cons (ev_field (i := 17) rfl (E1 _ _ hp) (r.ex E1) rfl T.y_BadMany T.X_BadMany.noY) (ea_nil))) (by simp)) (by simp)) fun p4 H4 n4 e4 h4 => hQ p4 H4 (fresh_back E1 n4) (E1.trans e4) h4
end
end Lw
namespace Lw
open PySem PySem.Spec PyProof.Rows L2 Evl
section
variable {P : Program} {w : World} {K : PySem.W.Frag} {mg : Str → Option Value} {base : Heap}
def cl (T : Txt P K mg) (i : Nat) : Addr := ((csT T).getD i (0, "")).1
structure Txx (T : Txt P K mg) : Prop where
  kk : ∀ i, i < 18 → ∀ j, j < 18 → PySem.W.kitOne K (.ref (cl T i)) (.ref (cl T j)) = some (decide (i = j))
  kn : ∀ i, i < 18 → PySem.W.kitOne K (.ref (cl T i)) (.ref T.c_NetError) = some true
  kv : ∀ i, i < 18 → PySem.W.kitOne K (.ref (cl T i)) (.type "ValueError") = some true
  kx : ∀ i, i < 18 → PySem.W.kitAny K (.ref (cl T i)) (["LookupError", "TypeError", "ArithmeticError"].map Value.type) = some false
  nk : ∀ j, j < 18 → PySem.W.kitOne K (.ref T.c_NetError) (.ref (cl T j)) = some false
  nv : PySem.W.kitOne K (.ref T.c_NetError) (.type "ValueError") = some true
theorem ev_isX {ta : TE} {σ : L2.St} {H : Hp} {x : V} {D C : Addr} {b : Bool} (ha : Ev ta σ H x) (ty : ∀ H1, Ex H H1 → TyW K H1 x (.ref D)) (hk : PySem.W.kitOne K (.ref D) (.ref C) = some b) : Ev (tCB (rIsU K) (tCons ta (tCons (tC (.ref C)) tNil))) σ H (.bl b) :=
  ev_cb (ea_cons ha (ea_cons ev_c ea_nil)) fun H1 e Q q => .inl ⟨x, .ref C, _, _, b, rfl, .own C, ty H1 e, hk, q H1 (Ex.refl H1)⟩
theorem ev_isV {ta : TE} {σ : L2.St} {H : Hp} {x : V} {D : Addr} {n : String} {b : Bool} (ha : Ev ta σ H x) (ty : ∀ H1, Ex H H1 → TyW K H1 x (.ref D)) (hk : PySem.W.kitOne K (.ref D) (.type n) = some b) : Ev (tCB (rIsU K) (tCons ta (tCons (tC (.ty n)) tNil))) σ H (.bl b) :=
  ev_cb (ea_cons ha (ea_cons ev_c ea_nil)) fun H1 e Q q => .inl ⟨x, .ty n, _, _, b, rfl, .ty n, ty H1 e, hk, q H1 (Ex.refl H1)⟩
theorem ev_isW {ta : TE} {tb : TA} {σ : L2.St} {H : Hp} {x : V} {D : Addr} {b : Bool} (ns : List String) (ha : Ev ta σ H x) (hb : EvA tb σ H (ns.map V.ty)) (hl : ns.length ≤ 100000) (ty : ∀ H1, Ex H H1 → TyW K H1 x (.ref D)) (h : PySem.W.kitAny K (.ref D) (ns.map Value.type) = some b) : Ev (tCB (rIsU K) (tCons ta (tCons (tTup tb) tNil))) σ H (.bl b) := fun H1 e1 Q q =>
  ha H1 e1 _ fun H2 e2 => (eu_tup hb (by rw [List.length_map]; exact hl)) H2 (e1.trans e2) _ fun p H3 hp e3 h3 =>
    .inr ⟨x, p, _, _, _, b, rfl, h3, clsv_tys ns, ty H3 ((e1.trans e2).trans e3), h, q H3 (e2.trans e3)⟩
def spClasses (T : Txt P K mg) : Sp := fun vs H Q _ => ∃ e D f, vs = [e] ∧ (∀ H1, Ex H H1 → TyW K H1 e (.ref D)) ∧ (∀ j, j < 18 → PySem.W.kitOne K (.ref D) (.ref (cl T j)) = some (f j)) ∧ ∀ q H', H q = none → Ex H H' → H' q = some (.lst (((List.range 18).map f).map V.bl)) → Q (.ref q) H'
theorem ok_classes (T : Txt P K mg) : FnOk P w K mg base CX0 1 T.a_classes T.d_classes ["_law_e"] (spClasses T) := by
  refine T.F_classes.ok sc_classes (fun vs H Q E h => ?_) (fun cdv A outer s H vs Q E hr h => ⟨_, PSs.nox (pss_cons (ps_set (i := 1) sc_classes.nd rfl (Or.inl rfl) (pe_lst (pa_cons (pe_callB (u_isinstance K) rfl T.n_isinstance (by decide +kernel) (pa_cons (pv 0) (pa_cons (pe_glob (v := .ref (T.c_BadBoxes)) rfl T.g_BadBoxes rfl) pa_nil))) (pa_cons (pe_callB (u_isinstance K) rfl T.n_isinstance (by decide +kernel) (pa_cons (pv 0) (pa_cons (pe_glob (v := .ref (T.c_BadBox)) rfl T.g_BadBox rfl) pa_nil))) (pa_cons (pe_callB (u_isinstance K) rfl T.n_isinstance (by decide +kernel) (pa_cons (pv 0) (pa_cons (pe_glob (v := .ref (T.c_BadOutputs)) rfl T.g_BadOutputs rfl) pa_nil))) (pa_cons (pe_callB (u_isinstance K) rfl T.n_isinstance (by decide +kernel) (pa_cons (pv 0) (pa_cons (pe_glob (v := .ref (T.c_BadOutput)) rfl T.g_BadOutput rfl) pa_nil))) pa_nil)))))) (pss_cons (ps_set (i := 1) sc_classes.nd rfl (Or.inl rfl) (pe_op (uAdd K) (pv 1) (pe_lst (pa_cons (pe_callB (u_isinstance K) rfl T.n_isinstance (by decide +kernel) (pa_cons (pv 0) (pa_cons (pe_glob (v := .ref (T.c_Ring)) rfl T.g_Ring rfl) pa_nil))) (pa_cons (pe_callB (u_isinstance K) rfl T.n_isinstance (by decide +kernel) (pa_cons (pv 0) (pa_cons (pe_glob (v := .ref (T.c_BadTime)) rfl T.g_BadTime rfl) pa_nil))) (pa_cons (pe_callB (u_isinstance K) rfl T.n_isinstance (by decide +kernel) (pa_cons (pv 0) (pa_cons (pe_glob (v := .ref (T.c_TooLong)) rfl T.g_TooLong rfl) pa_nil))) (pa_cons (pe_callB (u_isinstance K) rfl T.n_isinstance (by decide +kernel) (pa_cons (pv 0) (pa_cons (pe_glob (v := .ref (T.c_BadMeaning)) rfl T.g_BadMeaning rfl) pa_nil))) pa_nil))))))) (pss_cons (ps_set (i := 1) sc_classes.nd rfl (Or.inl rfl) (pe_op (uAdd K) (pv 1) (pe_lst (pa_cons (pe_callB (u_isinstance K) rfl T.n_isinstance (by decide +kernel) (pa_cons (pv 0) (pa_cons (pe_glob (v := .ref (T.c_BadNet)) rfl T.g_BadNet rfl) pa_nil))) (pa_cons (pe_callB (u_isinstance K) rfl T.n_isinstance (by decide +kernel) (pa_cons (pv 0) (pa_cons (pe_glob (v := .ref (T.c_BadLate)) rfl T.g_BadLate rfl) pa_nil))) (pa_cons (pe_callB (u_isinstance K) rfl T.n_isinstance (by decide +kernel) (pa_cons (pv 0) (pa_cons (pe_glob (v := .ref (T.c_BadTimes)) rfl T.g_BadTimes rfl) pa_nil))) pa_nil)))))) (pss_cons (ps_set (i := 1) sc_classes.nd rfl (Or.inl rfl) (pe_op (uAdd K) (pv 1) (pe_lst (pa_cons (pe_callB (u_isinstance K) rfl T.n_isinstance (by decide +kernel) (pa_cons (pv 0) (pa_cons (pe_glob (v := .ref (T.c_BadDistances)) rfl T.g_BadDistances rfl) pa_nil))) (pa_cons (pe_callB (u_isinstance K) rfl T.n_isinstance (by decide +kernel) (pa_cons (pv 0) (pa_cons (pe_glob (v := .ref (T.c_BadPeriod)) rfl T.g_BadPeriod rfl) pa_nil))) (pa_cons (pe_callB (u_isinstance K) rfl T.n_isinstance (by decide +kernel) (pa_cons (pv 0) (pa_cons (pe_glob (v := .ref (T.c_HasNet)) rfl T.g_HasNet rfl) pa_nil))) pa_nil)))))) (pss_one (ps_ret (pe_op (uAdd K) (pv 1) (pe_lst (pa_cons (pe_callB (u_isinstance K) rfl T.n_isinstance (by decide +kernel) (pa_cons (pv 0) (pa_cons (pe_glob (v := .ref (T.c_BadInput)) rfl T.g_BadInput rfl) pa_nil))) (pa_cons (pe_callB (u_isinstance K) rfl T.n_isinstance (by decide +kernel) (pa_cons (pv 0) (pa_cons (pe_glob (v := .ref (T.c_BadLag)) rfl T.g_BadLag rfl) pa_nil))) (pa_cons (pe_callB (u_isinstance K) rfl T.n_isinstance (by decide +kernel) (pa_cons (pv 0) (pa_cons (pe_glob (v := .ref (T.c_BadText)) rfl T.g_BadText rfl) pa_nil))) (pa_cons (pe_callB (u_isinstance K) rfl T.n_isinstance (by decide +kernel) (pa_cons (pv 0) (pa_cons (pe_glob (v := .ref (T.c_BadMany)) rfl T.g_BadMany rfl) pa_nil))) pa_nil)))))))))))), ?_⟩)
  · obtain ⟨x, _, _, rfl, _⟩ := h
    rfl
  · obtain ⟨x, D, f, rfl, ty, hk, hQ⟩ := h
    refine q_asgL (el_lst (ea_cons (ev_isX (ev_var rfl) ty (hk 0 (by decide))) (ea_cons (ev_isX (ev_var rfl) ty (hk 1 (by decide))) (ea_cons (ev_isX (ev_var rfl) ty (hk 2 (by decide))) (ea_cons (ev_isX (ev_var rfl) ty (hk 3 (by decide))) (ea_nil))))) (by simp)) fun p1 H1 n1 e1 h1 => ?_
    have E1 := e1
    refine q_asgL (el_cat (ev_var rfl) h1 (el_lst (ea_cons (ev_isX (ev_var rfl) (fun H1 e => ty H1 (E1.trans e)) (hk 4 (by decide))) (ea_cons (ev_isX (ev_var rfl) (fun H1 e => ty H1 (E1.trans e)) (hk 5 (by decide))) (ea_cons (ev_isX (ev_var rfl) (fun H1 e => ty H1 (E1.trans e)) (hk 6 (by decide))) (ea_cons (ev_isX (ev_var rfl) (fun H1 e => ty H1 (E1.trans e)) (hk 7 (by decide))) (ea_nil))))) (by simp)) (by simp)) fun p2 H2 n2 e2 h2 => ?_
    have E1 := e1.trans e2
    refine q_asgL (el_cat (ev_var rfl) h2 (el_lst (ea_cons (ev_isX (ev_var rfl) (fun H1 e => ty H1 (E1.trans e)) (hk 8 (by decide))) (ea_cons (ev_isX (ev_var rfl) (fun H1 e => ty H1 (E1.trans e)) (hk 9 (by decide))) (ea_cons (ev_isX (ev_var rfl) (fun H1 e => ty H1 (E1.trans e)) (hk 10 (by decide))) (ea_nil)))) (by simp)) (by simp)) fun p3 H3 n3 e3 h3 => ?_
    have E1 := (e1.trans e2).trans e3
    refine q_asgL (el_cat (ev_var rfl) h3 (el_lst (ea_cons (ev_isX (ev_var rfl) (fun H1 e => ty H1 (E1.trans e)) (hk 11 (by decide))) (ea_cons (ev_isX (ev_var rfl) (fun H1 e => ty H1 (E1.trans e)) (hk 12 (by decide))) (ea_cons (ev_isX (ev_var rfl) (fun H1 e => ty H1 (E1.trans e)) (hk 13 (by decide))) (ea_nil)))) (by simp)) (by simp)) fun p4 H4 n4 e4 h4 => ?_
    have E1 := E1.trans e4
    exact s_retL (el_cat (ev_var rfl) h4 (el_lst (ea_cons (ev_isX (ev_var rfl) (fun H1 e => ty H1 (E1.trans e)) (hk 14 (by decide))) (ea_cons (ev_isX (ev_var rfl) (fun H1 e => ty H1 (E1.trans e)) (hk 15 (by decide))) (ea_cons (ev_isX (ev_var rfl) (fun H1 e => ty H1 (E1.trans e)) (hk 16 (by decide))) (ea_cons (ev_isX (ev_var rfl) (fun H1 e => ty H1 (E1.trans e)) (hk 17 (by decide))) (ea_nil))))) (by simp)) (by simp)) fun p5 H5 n5 e5 h5 => hQ p5 H5 (fresh_back E1 n5) (E1.trans e5) h5
theorem ecT (T : Txt P K mg) : ∀ i, i < 18 → ExcC K (cl T i)
  | 0, _ => T.e_BadBoxes
  | 1, _ => T.e_BadBox
  | 2, _ => T.e_BadOutputs
  | 3, _ => T.e_BadOutput
  | 4, _ => T.e_Ring
  | 5, _ => T.e_BadTime
  | 6, _ => T.e_TooLong
  | 7, _ => T.e_BadMeaning
  | 8, _ => T.e_BadNet
  | 9, _ => T.e_BadLate
  | 10, _ => T.e_BadTimes
  | 11, _ => T.e_BadDistances
  | 12, _ => T.e_BadPeriod
  | 13, _ => T.e_HasNet
  | 14, _ => T.e_BadInput
  | 15, _ => T.e_BadLag
  | 16, _ => T.e_BadText
  | 17, _ => T.e_BadMany
  | i + 18, h => absurd h (by omega)
theorem cs_at (T : Txt P K mg) : ∀ i, i < 18 → ∃ y, (csT T)[i]? = some (cl T i, y)
  | 0, _ => ⟨_, rfl⟩
  | 1, _ => ⟨_, rfl⟩
  | 2, _ => ⟨_, rfl⟩
  | 3, _ => ⟨_, rfl⟩
  | 4, _ => ⟨_, rfl⟩
  | 5, _ => ⟨_, rfl⟩
  | 6, _ => ⟨_, rfl⟩
  | 7, _ => ⟨_, rfl⟩
  | 8, _ => ⟨_, rfl⟩
  | 9, _ => ⟨_, rfl⟩
  | 10, _ => ⟨_, rfl⟩
  | 11, _ => ⟨_, rfl⟩
  | 12, _ => ⟨_, rfl⟩
  | 13, _ => ⟨_, rfl⟩
  | 14, _ => ⟨_, rfl⟩
  | 15, _ => ⟨_, rfl⟩
  | 16, _ => ⟨_, rfl⟩
  | 17, _ => ⟨_, rfl⟩
  | i + 18, h => absurd h (by omega)
theorem AllX.upd {H : Hp} {x : V} {l : Addr} {ys zs : List V} {cs : List (Addr × Str)} {vs : List V} (hl : H l = some (.lst ys)) (h : AllX H x cs vs) : AllX (L2.upd H l (.lst zs)) x cs vs := by
  induction h with
  | nil => exact .nil
  | cons h r ih =>
    obtain ⟨e, d, h1, h2, h3⟩ := h
    exact .cons ⟨e, d, h1, by rw [upd_ne (fun z => by rw [z, hl] at h2; cases h2)]; exact h2, by rw [upd_ne (fun z => by rw [z, hl] at h3; cases h3)]; exact h3⟩ ih
theorem StX.mut {H0 H : Hp} {st c l : Addr} {ns : List Int} {o : HO} (S0 : StX K H0 st c ns) (n0 : H0 l = none) (S : StX K H st c ns) : StX K (L2.upd H l o) st c ns := by
  obtain ⟨n0', l0', m0', A⟩ := S0
  obtain ⟨n1, l1, m1, B⟩ := S
  refine ⟨n1, l1, m1, B.ne, ?_, B.len, by rw [upd_ne (ne_of_none A.st n0)]; exact B.st⟩
  have tr : ∀ {u : HO}, H0 c = some u → SqL K (L2.upd H l o) c (ns.map V.int) := fun h => (show Xs l H (L2.upd H l o) from Xs.at_).sqL (ne_of_none h n0) B.cs
  rcases A.cs with (h | ⟨o, h⟩) | h
  · exact tr h
  · exact tr h
  · exact .inr h
theorem _root_.Evl.RV.trans_eq {r : R2} {x y z z' : V} {H : Hp} (h : RV r x y H z) (e : z = z') : RV r x y H z' := e ▸ h
theorem et_yes {σ : L2.St} {H : Hp} : EvT tYes σ H true := fun H1 _ Q q => q H1 (Ex.refl H1)
theorem mul_ok : ∀ i : Nat, i < 4 → MulOk "w" (i : Int)
  | 0, _ => ⟨by decide, fun h => absurd (by decide : (0 : Int) < 1) h, fun h => absurd (by decide : (0 : Int) < 1) h⟩
  | 1, _ => ⟨by decide, fun _ h => absurd h (by decide), fun _ h => absurd h (by decide)⟩
  | 2, _ => ⟨by decide, fun _ _ => by decide, fun _ _ => by decide⟩
  | 3, _ => ⟨by decide, fun _ _ => by decide, fun _ _ => by decide⟩
  | i + 4, h => absurd h (by omega)
theorem s_forEL {ta : TE} {i j : Nat} {a : Addr} {xs : List V} {σ : L2.St} {H : Hp} {D : Ends} {tu : TS} (h : Ev ta σ H (.ref a)) (hx : SqL K H a xs) (Pv : Nat → L2.St → Hp → Prop) (h0 : ∀ H1, Ex H H1 → Pv 0 σ H1) (hP : ∀ k σ' H', Pv k σ' H' → SqL K H' a xs)
    (hs : ∀ (k : Nat) x σ' H', xs[k]? = some x → Pv k σ' H' → ∀ H2, Ex H' H2 → tu { D with nx := Pv (k + 1), ct := Pv (k + 1), bk := D.nx } ((σ'.set i (some (.int (k : Int)))).set j (some x)) H2) (hd : ∀ σ' H', Pv xs.length σ' H' → D.nx σ' H') :
    tFor (iEnum K (tCons ta tNil)) (gTup K 2 (gCons (gName i) (gCons (gName j) gNil))) tu D σ H := by
  unfold tFor iEnum tCons
  refine h H (Ex.refl H) _ fun H1 e => ⟨a, xs, rfl, ex_l e hx, for_it walk_enum Pv (h0 H1 e) (fun k σ' H' _ pv => hP k σ' H' pv) (fun k x σ' H' H2 hk pv ⟨T, y, z, e1, e2, e3, e4, e5⟩ => ?_) hd⟩
  subst e1 e3
  cases e4
  exact g_pair upd_same (hs k z σ' H' e5 pv _ (Ex.new e2))
/-- the bools as plain data -/
def bd (bs : List Bool) : PyData := .list (bs.map .bool)
theorem dp_bools {H : Hp} {p : Addr} : ∀ {bs : List Bool}, H p = some (.lst (bs.map V.bl)) → Dp K H (.ref p) (bd bs) := fun {bs} h => by
  refine .lst (sq_of h) ?_
  clear h
  induction bs with
  | nil => exact .nil
  | cons b r ih => exact .cons (.bl b) ih
def spLaw (K : PySem.W.Frag) : Sp := fun vs H Q _ => ∃ (a : Addr) (ns : List Int), vs = [.ref a] ∧ SqL K H a (ns.map V.int) ∧ ns.length ≤ 63 ∧ ∀ H', Q (.bl true) H'
theorem ok_law (T : Txt P K mg) (U : Txx T) : FnOk P w K mg base CX0 5 T.a_law T.d_law ["_law_script"] (spLaw K) := by
  refine T.F_law.ok sc_law (fun vs H Q E h => ?_) (fun cdv A outer s H vs Q E hr h => ⟨_, PSs.nox (pss_cons (ps_set (i := 1) sc_law.nd rfl (Or.inl rfl) (pe_call (ok_fresh T) (hr.mono (by decide)) rfl T.g_fresh T.F_fresh.kp T.b_fresh .nil pass0 (pa_cons (pv 0) pa_nil))) (pss_cons (ps_for PassesOwn.never rfl (pi_range1 rfl T.n_range (pa_cons pe_int pa_nil)) (pg_name (i := 2) sc_law.nd rfl (Or.inl rfl)) (pss_cons (ps_set (i := 3) sc_law.nd rfl (Or.inr rfl) (pe_call (ok_one T) (hr.mono (by decide)) rfl T.g_one T.F_one.kp T.b_one .nil pass0 (pa_cons (pv 1) (pa_cons (pe_lst (pa_cons (pv 2) (pa_cons (pe_op uMul pe_str (pv 2)) (pa_cons (pe_lst (pa_cons (pv 2) pa_nil)) (pa_cons (pe_tup (pa_cons (pv 2) (pa_cons (pe_lst (pa_cons (pv 2) pa_nil)) pa_nil))) (pa_cons pe_non (pa_cons pe_bl (pa_cons (pe_disp (pps_cons pe_str (pv 2) pps_nil) rfl rfl (by decide) (by decide)) pa_nil)))))))) pa_nil)))) (pss_cons (ps_set (i := 4) sc_law.nd rfl (Or.inl rfl) (pe_lst (pa_cons (pe_call (ok_with_one T) (hr.mono (by decide)) rfl T.g_with_one T.F_with_one.kp T.b_with_one .nil pass0 (pa_cons (pv 3) pa_nil)) (pa_cons (pe_call (ok_by_place T) (hr.mono (by decide)) rfl T.g_by_place T.F_by_place.kp T.b_by_place .nil pass0 (pa_cons (pv 3) pa_nil)) pa_nil)))) (Evl.pss_cut (ps_if (pt_val (pe_callB (u_isinstance K) rfl T.n_isinstance (by decide +kernel) (pa_cons (pv 3) (pa_cons (pe_bltn (v := .ty "list") rfl T.n_list (by decide +kernel) rfl) pa_nil)))) (pss_one (ps_expr (pe_bm PySem.F.plainAttrs_list PySem.F.slot_list_append PySem.F.type_list_append mt_append (pv 3) (pa_cons pe_str pa_nil)))) pss_nil) (pss_cons (ps_for PassesOwn.never rfl (pi_list (pv 4)) (pg_name (i := 5) sc_law.nd rfl (Or.inl rfl)) (pss_one (ps_if (pt_not (pt_val (pe_callB (cr_all rfl) rfl T.n_all (by decide +kernel) (pa_cons (pe_lc (own := [("_law_found", 8)]) (g := gName 8) rfl sc_law.nd (pi_list (pe_call (ok_held T) (hr.mono (by decide)) rfl T.g_held T.F_held.kp T.b_held .nil pass0 (pa_cons (pv 5) pa_nil))) (blkOk_by (N := ["_law_script", "_law_state", "_law_turn", "_law_x", "_law_ones", "_law_errors", "_law_k", "_law_e", "_law_found", "_law_at"]) (sc := defScope s_law) (by decide +kernel)) (fun _ _ _ _ _ => (pg_name (i := 8) sc_law.nd rfl (Or.inl rfl))) (fun _ _ _ _ _ => pts_nil) (fun _ _ _ _ _ => (pe_call (ok_same T 3) (hr.mono (by decide)) rfl T.g_same T.F_same.kp T.b_same .nil pass0 (pa_cons (pv 8) (pa_cons (pv 3) pa_nil))))) pa_nil)))) (pss_one (ps_ret pe_bl)) pss_nil))) (pss_cons (ps_for PassesOwn.never rfl (pi_enum rfl T.n_enumerate (pa_cons (pe_ix (uIx K) (pv 4) pe_int (fun _ _ => rfl)) pa_nil)) (pg_tup rfl (pgs_cons (pg_name (i := 6) sc_law.nd rfl (Or.inr rfl)) (pgs_cons (pg_name (i := 7) sc_law.nd rfl (Or.inl rfl)) pgs_nil))) (pss_cons (ps_if (PW.pt (pw_or (pt_not (pt_val (pe_callB (u_isinstance K) rfl T.n_isinstance (by decide +kernel) (pa_cons (pv 7) (pa_cons (pe_glob (v := .ref (T.c_NetError)) rfl T.g_NetError rfl) pa_nil))))) (pw_or1 (pt_not (pt_val (pe_callB (u_isinstance K) rfl T.n_isinstance (by decide +kernel) (pa_cons (pv 7) (pa_cons (pe_bltn (v := .ty "ValueError") rfl T.n_ValueError (by decide +kernel) rfl) pa_nil)))))))) (pss_one (ps_ret pe_bl)) pss_nil) (pss_cons (ps_if (pt_val (pe_callB (u_isinstance K) rfl T.n_isinstance (by decide +kernel) (pa_cons (pv 7) (pa_cons (pe_tup (pa_cons (pe_bltn (v := .ty "LookupError") rfl T.n_LookupError (by decide +kernel) rfl) (pa_cons (pe_bltn (v := .ty "TypeError") rfl T.n_TypeError (by decide +kernel) rfl) (pa_cons (pe_bltn (v := .ty "ArithmeticError") rfl T.n_ArithmeticError (by decide +kernel) rfl) pa_nil)))) pa_nil)))) (pss_one (ps_ret pe_bl)) pss_nil) (pss_one (ps_if (pt_cmpR (uNe K (hu64 hr)) (pe_call (ok_classes T) (hr.mono (by decide)) rfl T.g_classes T.F_classes.kp T.b_classes .nil pass0 (pa_cons (pv 7) pa_nil)) (pe_lc (own := [("_law_at", 9)]) (g := gName 9) rfl sc_law.nd (pi_range1 rfl T.n_range (pa_cons (pe_callB (u_len K) rfl T.n_len (by decide +kernel) (pa_cons (pe_ix (uIx K) (pv 4) pe_int (fun _ _ => rfl)) pa_nil)) pa_nil)) (blkOk_by (N := ["_law_script", "_law_state", "_law_turn", "_law_x", "_law_ones", "_law_errors", "_law_k", "_law_e", "_law_found", "_law_at"]) (sc := defScope s_law) (by decide +kernel)) (fun _ _ _ _ _ => (pg_name (i := 9) sc_law.nd rfl (Or.inl rfl))) (fun _ _ _ _ _ => pts_nil) (fun _ _ _ _ _ => (pe_cmpR (uEq K (hu64 hr)) (pv 9) (pv 6) (nomark _)))) (nomark _)) (pss_one (ps_ret pe_bl)) pss_nil))))) (pss_one (ps_if (pt_cmpR (uIn K) pe_bl (pe_call (ok_classes T) (hr.mono (by decide)) rfl T.g_classes T.F_classes.kp T.b_classes .nil pass0 (pa_cons (pe_mk0 PySem.F.excBase_ValueError T.x_NetError T.g_NetError T.k_NetError) pa_nil)) (by with_unfolding_all rfl)) (pss_one (ps_ret pe_bl)) pss_nil)))))))) (pss_one (ps_ret (pe_callB (u_isinstance K) rfl T.n_isinstance (by decide +kernel) (pa_cons (pe_mk0 PySem.F.excBase_ValueError T.x_NetError T.g_NetError T.k_NetError) (pa_cons (pe_bltn (v := .ty "ValueError") rfl T.n_ValueError (by decide +kernel) rfl) pa_nil))))))), ?_⟩)
  · obtain ⟨x, _, rfl, _⟩ := h
    rfl
  · obtain ⟨a, ns0, rfl, hS, hl, hQ⟩ := h
    refine q_st ⟨_, rfl, a, ns0, rfl, hS, hl, fun st c ns H1 hst hc e1 S1 => ?_⟩
    refine q_forR1 (ea_cons ev_c ea_nil) (by decide) (fun i σ' H' => ∃ o2 o3 o4 o5 o6 o7, σ' = [some (.ref a), some (.ref st), o2, o3, o4, o5, o6, o7, none, none] ∧ StX K H' st c ns) (fun H2 e2 => ⟨_, _, _, _, _, _, rfl, S1.ex e2⟩) ?_ ?_
    · rintro i σ' H0 hi ⟨o2, o3, o4, o5, o6, o7, rfl, S0⟩
      have hi4 : i < 4 := by omega
      -- x
      refine q_st ⟨_, rfl, ?_⟩
      refine ⟨_, rfl, ⟨_, rfl, .inr (.inr ⟨_, _, rfl, rfl, mul_ok i hi4, ?_⟩)⟩⟩
      refine (el_lst (ea_cons (ev_var rfl) ea_nil) (by simp)) H0 (Ex.refl H0) _ fun l1 Ha n1 ea ha => ?_
      refine ⟨_, rfl, ?_⟩
      refine (el_lst (ea_cons (ev_var rfl) ea_nil) (by simp)) Ha (Ex.refl Ha) _ fun l2 Hb n2 eb hb => ?_
      refine ⟨by show 2 ≤ sizeLine; decide, fun t2 nt => ?_⟩
      intro d nd
      refine ⟨_, rfl, upd_same, [(.inr "w", .int (i : Int))], rfl, by simp, ?_⟩
      refine ⟨by show 7 ≤ sizeLine; decide, fun p np => ?_⟩
      -- the heap with the seven things
      have xt : Ex Hb (upd Hb t2 (.tup [.int (i : Int), .ref l2])) := Ex.new nt
      have xd : Ex (upd Hb t2 (.tup [.int (i : Int), .ref l2])) (upd (upd (upd Hb t2 (.tup [.int (i : Int), .ref l2])) d (.dK [])) d (.dK (mergeK [] [(.inr "w", .int (i : Int))]))) := (Ex.new nd).mut nd
      have xp := Ex.new (o := .lst [.int (i : Int), .str (Txt.mul "w" (i : Int)), .ref l1, .ref t2, .non, .bl true, .ref d]) np
      have xa := ((eb.trans xt).trans xd).trans xp
      have x0 := ea.trans xa
      have g1 := xa _ _ ha
      have g2 := (xt.trans (xd.trans xp)) _ _ hb
      have g3 := (xd.trans xp) _ _ (upd_same (H := Hb) (a := t2) (o := .tup [.int (i : Int), .ref l2]))
      have g4 := xp _ _ (upd_same (H := upd (upd Hb t2 (.tup [.int (i : Int), .ref l2])) d (.dK [])) (a := d) (o := .dK (mergeK [] [(.inr "w", .int (i : Int))])))
      have gp := upd_same (H := upd (upd (upd Hb t2 (.tup [.int (i : Int), .ref l2])) d (.dK [])) d (.dK (mergeK [] [(.inr "w", .int (i : Int))]))) (a := p) (o := .lst [.int (i : Int), .str (Txt.mul "w" (i : Int)), .ref l1, .ref t2, .non, .bl true, .ref d])
      generalize upd (upd (upd (upd Hb t2 (.tup [.int (i : Int), .ref l2])) d (.dK [])) d (.dK (mergeK [] [(.inr "w", .int (i : Int))]))) p (.lst [.int (i : Int), .str (Txt.mul "w" (i : Int)), .ref l1, .ref t2, .non, .bl true, .ref d]) = H1' at xp xa x0 g1 g2 g3 g4 gp
      have Sx1 := S0.ex x0
      have hst1 : ∃ o, H1' st = some (.lst o) := by
        obtain ⟨_, _, _, B⟩ := Sx1
        exact ⟨_, B.st⟩
      have nst : ∀ {q : Addr}, H0 q = none → q ≠ st := fun {q} hq => by
        obtain ⟨_, _, _, B⟩ := S0
        exact Ne.symm (ne_of_none B.st hq)
      have nl2 : H0 l2 = none := fresh_back ea n2
      have nt2 : H0 t2 = none := fresh_back (ea.trans eb) nt
      have nd2 : H0 d = none := fresh_back ((ea.trans eb).trans xt) nd
      have npp : H0 p = none := fresh_back (((ea.trans eb).trans xt).trans xd) np
      refine ⟨st, c, ns, p, _, rfl, nst npp, .inl (sq_of gp), by show 0 < 7; decide, by show 7 ≤ 100000; decide, Sx1, fun ix x H2 hx x2 S2 => ?_⟩
      have f1 : H2 l1 = some (.lst [.int (i : Int)]) := x2 _ _ (nst n1) g1
      have f2 : H2 l2 = some (.lst [.int (i : Int)]) := x2 _ _ (nst nl2) g2
      have f3 : H2 t2 = some (.tup [.int (i : Int), .ref l2]) := x2 _ _ (nst nt2) g3
      have f4 : H2 d = some (.dK [(.inr "w", .int (i : Int))]) := x2 _ _ (nst nd2) g4
      have one : ∀ {k : Nat} {y z : V} {u v : V}, u = v → [u][k]? = some y → [v][k]? = some z → y = z := fun e h1 h2 => by
        subst e
        rw [h1] at h2
        exact Option.some.inj h2
      have smi : ∀ {n k : Nat} {y z : V}, [V.int (i : Int)][k]? = some y → [V.int (i : Int)][k]? = some z → Sm K H2 n y z := fun {n k y z} h1 h2 => by
        cases k with
        | zero => cases h1; cases h2; exact .int _ _
        | succ k => simp at h1
      have hw : (∃ t, Kn K H2 x t ∧ kitB t "list" = some false ∧ Sm K H2 3 x x) ∨ ∃ l, x = .ref l ∧ H2 l = some (.lst [.int (i : Int)]) ∧ H0 l = none := by
        match ix, hx with
        | 0, hx => cases hx; exact .inl ⟨"int", .int _, by decide +kernel, .int _ _⟩
        | 1, hx => cases hx; exact .inl ⟨"str", .str _, by decide +kernel, .str _ _⟩
        | 2, hx => cases hx; exact .inr ⟨l1, rfl, f1, n1⟩
        | 3, hx =>
          cases hx
          refine .inl ⟨"tuple", .tup (st_of f3), by decide +kernel, .tup (st_of f3) (st_of f3) rfl (by simp) fun k y z hy hz => ?_⟩
          match k, hy, hz with
          | 0, hy, hz => cases hy; cases hz; exact .int _ _
          | 1, hy, hz => cases hy; cases hz; exact .lst (sq_of f2) (sq_of f2) rfl (by simp) fun k y z hy hz => smi hy hz
          | k + 2, hy, hz => simp at hy
        | 4, hx => cases hx; exact .inl ⟨"NoneType", .non, by decide +kernel, .non _⟩
        | 5, hx => cases hx; exact .inl ⟨"bool", .bl _, by decide +kernel, .bl _ _⟩
        | 6, hx =>
          cases hx
          refine .inl ⟨"dict", .dK f4, by decide +kernel, .dK _ f4 f4 fun H' e' => ⟨1, by decide, .inr ⟨d, d, _, _, rfl, rfl, e' _ _ f4, e' _ _ f4, rfl, fun q hq => ?_⟩⟩⟩
          cases List.mem_singleton.mp hq
          exact ⟨.int (i : Int), rfl, .inl ⟨rfl, rfl⟩⟩
        | k + 7, hx => simp at hx
      clear f1 f2 f3 f4 one smi hx
      -- ones
      refine q_st ⟨_, rfl, x, rfl, fun p1 es1 H3 m1 e3 h1 r1 => ⟨_, rfl, x, rfl, fun p2 es2 H4 m2 e4 h2 r2 => ⟨by show 2 ≤ sizeLine; decide, fun po no => ?_⟩⟩⟩
      have e5 : Ex H4 (upd H4 po (.lst [.ref p1, .ref p2])) := Ex.new no
      have k1 := (e4.trans e5) _ _ h1
      have k2 := e5 _ _ h2
      have ko := upd_same (H := H4) (a := po) (o := .lst [.ref p1, .ref p2])
      have q1 := r1.ex (e4.trans e5)
      have q2 := r2.ex e5
      have e25 := (e3.trans e4).trans e5
      have n1' : H2 p1 = none := m1
      have n2' : H2 p2 = none := fresh_back e3 m2
      have no' : H2 po = none := fresh_back (e3.trans e4) no
      generalize upd H4 po (.lst [.ref p1, .ref p2]) = H5 at e5 k1 k2 ko q1 q2 e25
      -- x grows if it is a list
      refine q_cut (M := fun σ' H6 => σ' = [some (.ref a), some (.ref st), some (.int (i : Int)), some x, some (.ref po), o5, o6, o7, none, none] ∧ StX K H6 st c ns ∧ Sm K H6 3 x x ∧ H6 po = some (.lst [.ref p1, .ref p2]) ∧ H6 p1 = some (.lst es1) ∧ H6 p2 = some (.lst es2) ∧ AllX H6 x (csT T) es1 ∧ AllX H6 x (csT T) es2) ?_ ?_
      · rcases hw with ⟨t, kt, kf, sm⟩ | ⟨l, rfl, hl2, hl0⟩
        · exact s_when (et_B (ev_is1 (ev_var rfl) (kt.ex e25) kf)) (fun h => nomatch h) fun _ H6 e6 => ⟨rfl, (S2.ex e25).ex e6, (sm.ex e25).ex e6, e6 _ _ ko, e6 _ _ k1, e6 _ _ k2, q1.ex e6, q2.ex e6⟩
        · refine s_when (et_B (ev_is1 (ev_var rfl) ((Kn.lst (sq_of hl2)).ex e25) (b := true) (by decide +kernel))) (fun _ H6 e6 => ?_) (fun h => nomatch h)
          have hl6 := (e25.trans e6) _ _ hl2
          refine s_app hl6 (ev_var rfl) ev_c (by simp) fun H7 e7 => ?_
          have hl7 := e7 _ _ hl6
          have e27 := (e25.trans e6).trans e7
          have ne : ∀ {q : Addr}, H2 q = none → q ≠ l := fun {q} hq => Ne.symm (ne_of_none hl2 hq)
          have up : ∀ {q : Addr} {o : HO}, H2 q = none → H5 q = some o → upd H7 l (.lst ([.int (i : Int)] ++ [.str "more"])) q = some o := fun {q o} hq hh => by
            rw [upd_ne (ne hq)]
            exact (e6.trans e7) _ _ hh
          refine ⟨rfl, S0.mut hl0 (S2.ex e27), .lst (sq_of upd_same) (sq_of upd_same) rfl (by simp) fun k y z hy hz => ?_, up no' ko, up n1' k1, up n2' k2, (q1.ex (e6.trans e7)).upd hl7, (q2.ex (e6.trans e7)).upd hl7⟩
          match k, hy, hz with
          | 0, hy, hz => cases hy; cases hz; exact .int _ _
          | 1, hy, hz => cases hy; cases hz; exact .str _ _
          | k + 2, hy, hz => simp at hy
      clear hw k1 k2 ko q1 q2 e25 e5
      rintro σ' H6 ⟨rfl, S6, sm, ko, k1, k2, q1, q2⟩
      -- what each holds
      refine q_forL (ev_var rfl) (sq_of ko) (fun j σ' H' => ∃ o5, σ' = [some (.ref a), some (.ref st), some (.int (i : Int)), some x, some (.ref po), o5, o6, o7, none, none] ∧ Ex H6 H') (fun H7 e7 => ⟨_, rfl, e7⟩) (fun j σ' H' _ ⟨_, _, e⟩ => sq_of (e _ _ ko)) ?_ ?_
      · rintro j er σ' H7 hj ⟨o5, rfl, e7⟩
        obtain ⟨pe, es, rfl, kp, qp⟩ : ∃ pe es, er = .ref pe ∧ H6 pe = some (.lst es) ∧ AllX H6 x (csT T) es := by
          match j, hj with
          | 0, hj => cases hj; exact ⟨_, _, rfl, k1, q1⟩
          | 1, hj => cases hj; exact ⟨_, _, rfl, k2, q2⟩
          | j + 2, hj => simp at hj
        have held : ∀ {σ : L2.St}, σ[5]? = some (some (.ref pe)) → EvL (tCall (spHeld T) [] E0 (tCons (tVar 5) tNil)) σ H7 (List.replicate 18 x) := fun h5 => el_call (ea_cons (ev_var h5) ea_nil) fun H8 e8 Q q E => ⟨pe, x, es, rfl, (e7.trans e8) _ _ kp, qp.ex (e7.trans e8), q⟩
        refine s_when (b := false) (et_is (et_not (et_B (ev_all (bs := (List.range 18).map fun _ => true) ?_))) rfl) (fun h => nomatch h) fun _ H8 e8 => ⟨_, rfl, e7.trans e8⟩
        show EvL _ _ _ (given (List.replicate 18 x).length (fun _ => true) fun _ => .bl true)
        refine el_lcNL (fun _ => true) (fun _ => .bl true) (held rfl) (by simp) (fun _ => rfl) (fun _ _ _ _ _ => et_yes) fun j y H8 e8 hy _ => ?_
        have ey : y = x := by
          have := (List.getElem?_replicate (a := x) (n := 18) (i := j)).symm.trans hy
          split at this
          · exact (Option.some.inj this).symm
          · cases this
        subst ey
        exact ev_call (ea_cons (ev_var rfl) (ea_cons (ev_var rfl) ea_nil)) (same_get (sm.ex (e7.trans e8)))
      rintro σ' H7 ⟨o5', rfl, e7⟩
      have l1' : es1.length = 18 := q1.len
      have one0 : ∀ {σ : L2.St} {H' : Hp}, Ex H6 H' → σ[4]? = some (some (.ref po)) → Ev (tOp (rIx K) (tVar 4) (tC (.int 0))) σ H' (.ref p1) := fun e h => ev_ixL (ev_var h) ev_c (sq_of (e _ _ ko)) rfl
      refine q_st (s_forEL (one0 e7 rfl) (sq_of (e7 _ _ k1)) (fun k σ' H' => ∃ o6 o7, σ' = [some (.ref a), some (.ref st), some (.int (i : Int)), some x, some (.ref po), o5', o6, o7, none, none] ∧ Ex H6 H') (fun H8 e8 => ⟨_, _, rfl, e7.trans e8⟩) (fun k σ' H' ⟨_, _, _, e⟩ => sq_of (e _ _ k1)) ?_ ?_)
      · rintro k er σ' H8 hk ⟨o6', o7', rfl, e8⟩ H9 e89
        have e9 := e8.trans e89
        have hk18 : k < 18 := by
          have := (List.getElem?_eq_some_iff.mp hk).1
          omega
        obtain ⟨y, hy⟩ := cs_at T k hk18
        obtain ⟨v, hv, ee, dd, ev, hee, hdd⟩ := q1.get hy
        rw [hk] at hv
        cases hv
        subst ev
        have ty : ∀ {H' : Hp}, Ex H6 H' → ∀ H1, Ex H' H1 → TyW K H1 (.ref ee) (.ref (cl T k)) := fun e H1 e' => .excd (ecT T k hk18) ((e.trans e') _ _ hee) ((e.trans e') _ _ hdd)
        refine q_when (b := false) (et_is (et_or (et_not (et_B (ev_isX (ev_var rfl) (ty e9) (U.kn k hk18)))) fun _ => et_not (et_B (ev_isV (ev_var rfl) (ty e9) (U.kv k hk18)))) rfl) (fun h => nomatch h) fun _ H10 e10 => ?_
        have e10' := e9.trans e10
        refine q_when (et_B (ev_isW ["LookupError", "TypeError", "ArithmeticError"] (ev_var rfl) (ea_cons ev_c (ea_cons ev_c (ea_cons ev_c ea_nil))) (by decide) (ty e10') (U.kx k hk18))) (fun h => nomatch h) fun _ H11 e11 => ?_
        have e11' := e10'.trans e11
        have c1 : ∀ {σ : L2.St}, σ[7]? = some (some (.ref ee)) → EvL (tCall (spClasses T) [] E0 (tCons (tVar 7) tNil)) σ H11 (((List.range 18).map fun j => decide (k = j)).map V.bl) := fun h7 => el_call (ea_cons (ev_var h7) ea_nil) fun H12 e12 Q q E => ⟨.ref ee, cl T k, fun j => decide (k = j), rfl, ty (e11'.trans e12), fun j hj => U.kk k hk18 j hj, q⟩
        have c2 : ∀ {σ : L2.St}, σ[6]? = some (some (.int (k : Int))) → σ[4]? = some (some (.ref po)) → wipe σ [9] = σ.set 9 none → (∀ z, (((wipe σ [9]).set 9 (some z))[6]? = some (some (.int (k : Int)))) ∧ ((wipe σ [9]).set 9 (some z))[9]? = some (some z)) → (∀ z, wipe ((wipe σ [9]).set 9 (some z)) [9] = wipe σ [9]) → EvL (tLc (iRng1 (tCons (tCB (rLenS K) (tCons (tOp (rIx K) (tVar 4) (tC (.int 0))) tNil)) tNil)) (gName 9) tYes (tOp (rEqU K) (tVar 9) (tVar 6)) [9]) σ H11 (((List.range 18).map fun j => decide (k = j)).map V.bl) := fun h6 h4 _ hz hw => by
          have z := el_lcR1 (H := H11) (j := 9) (vs := [9]) (t := tYes) (te := tOp (rEqU K) (tVar 9) (tVar 6)) (n := (es1.length : Int)) (fun _ => true) (fun j => .bl (decide (V.int (j : Int) = V.int (k : Int)))) (ea_cons (ev_len (K := K) (one0 e11' h4) (sq_of (e11' _ _ k1))) ea_nil) (by omega) hw (fun _ _ _ _ => et_yes) fun j H12 e12 hj _ => ev_eq (ev_var (hz _).2) (ev_var (hz _).1) rfl
          have hl : (es1.length : Int).toNat = 18 := by omega
          rw [hl, given_all] at z
          have e : (List.range 18).map (fun j : Nat => V.bl (decide (V.int (j : Int) = V.int (k : Int)))) = ((List.range 18).map fun j => decide (k = j)).map V.bl := by
            rw [List.map_map]
            refine List.map_congr_left fun j _ => congrArg V.bl (decide_eq_decide.mpr ⟨fun h => ?_, fun h => by rw [h]⟩)
            have := V.int.inj h
            omega
          rw [e] at z
          exact z
        refine s_when (b := false) (et_test (ev_opLL (c1 rfl) (c2 rfl rfl rfl (fun _ => ⟨rfl, rfl⟩) fun _ => rfl) fun p q H12 hp hq _ => RV.r fun H13 e13 Q qq => ⟨_, _, dp_bools (e13 _ _ hp), dp_bools (e13 _ _ hq), rfl, rfl, ?_⟩)) (fun h => nomatch h) fun _ H12 e12 => ⟨_, _, rfl, e11'.trans e12⟩
        rw [show PyData.eqv (bd ((List.range 18).map fun j => decide (k = j))) (bd ((List.range 18).map fun j => decide (k = j))) = true from SeqAt.eqv_refl _ rfl]
        exact qq H13 (Ex.refl _)
      rintro σ' H8 ⟨o6', o7', rfl, e8⟩
      have c0 : ∀ {σ : L2.St}, EvL (tCall (spClasses T) [] E0 (tCons (fun σ H Q => ∀ a, H a = none → Q (.ref a) (upd H a (exo a T.c_NetError none))) tNil)) σ H8 (((List.range 18).map fun _ => false).map V.bl) := fun H9 e9 Q q a ha =>
        ⟨.ref a, T.c_NetError, fun _ => false, rfl, fun H10 e10 => .exc T.e_NetError (e10 _ _ upd_same), fun j hj => U.nk j hj, fun p H10 np e10 h10 => q p H10 (fresh_back (Ex.new ha) np) ((Ex.new ha).trans e10) h10⟩
      refine s_when (b := false) (et_test (ev_opL ev_c c0 fun p H9 hp _ => RV.trans_eq (rv_isL (sq_of hp) rfl rfl) rfl)) (fun h => nomatch h) fun _ H9 e9 => ⟨_, _, _, _, _, _, rfl, S6.ex (e8.trans e9)⟩
    · rintro σ' H' ⟨o2, o3, o4, o5, o6, o7, rfl, S⟩
      exact fun x hx => .inl ⟨.ref x, .ty "ValueError", .ref T.c_NetError, .type "ValueError", true, rfl, .ty _, .exc T.e_NetError upd_same, U.nv, hQ _⟩
end
end Lw
/-! the head's facts of exception classes -/
namespace Lw
open PySem PySem.Spec PyProof.Rows L2
abbrev ExV : Type := Option (Str × Str × Arguments × FuncBody × Scope × Addr × List Str × Value × Value × Addr)
def exAt (K : PySem.W.Frag) (f : Addr) : ExV := match K.lookup f with
  | some ⟨_, _, .func fd, _⟩ => some (fd.name, fd.qualname, fd.params, fd.body, fd.scope, fd.globals, fd.closure.map (·.1), fd.defaults, fd.kwdefaults, fd.builtins)
  | _ => none
def exOf (qual : Str) (st : Stmt) : ExV := some ("__init__", qual, defArgs st, .stmts (defBody st), defScope st, mainGlobals, ["__class__"], .none, .none, builtinsNs)
def clsB (K : PySem.W.Frag) (C : Addr) : Bool := match K.lookup C with
  | some ⟨.type "type", _, .cls cd, sl⟩ => (match cd.mro, sl.toList with
    | .ref C' :: bm, [_, _, _, _, some (.builtin n), _] => C' == C && (n == "ValueError.__new__" && (!cd.hasDel && (cd.hasDict && (HandSPX.refsVE bm && He.eqO (PySem.W.alongIn K "__init__" bm) (some (some (.builtin "ValueError.__init__")))))))
    | _, _ => false)
  | _ => false
theorem clsB_ok {K : PySem.W.Frag} {C : Addr} (h : clsB K C = true) : ∃ nm q N bs bm sn sub ab col dd k0 k1 k2 k3 k5, K.lookup C = some (excClassObj nm q C N bs bm true sn sub ab col dd k0 k1 k2 k3 k5 "ValueError.__new__") ∧ HandSPX.refsVE bm = true ∧ PySem.W.alongIn K "__init__" bm = some (some (.builtin "ValueError.__init__")) := by
  unfold clsB at h
  split at h
  · rename_i dd cd sl ho
    split at h
    · rename_i C' bm k0 k1 k2 k3 n k5 hm hs
      obtain ⟨h1, h⟩ := He.ba h
      obtain ⟨h2, h⟩ := He.ba h
      obtain ⟨h3, h⟩ := He.ba h
      obtain ⟨h4, h⟩ := He.ba h
      obtain ⟨h5, h6⟩ := He.ba h
      obtain rfl := beq_iff_eq.mp h1
      obtain rfl := beq_iff_eq.mp h2
      obtain ⟨nm, bs, mro, ns, qn, hd, sn, sub, ab, col, del⟩ := cd
      dsimp only at hm h3 h4
      subst hm h4
      have h3' : del = false := by simpa using h3
      subst h3'
      have hsl : sl = #[k0, k1, k2, k3, some (.builtin "ValueError.__new__"), k5] := by
        obtain ⟨l⟩ := sl
        simp only at hs
        rw [hs]
      subst hsl
      exact ⟨nm, qn, ns, bs, bm, sn, sub, ab, col, dd, k0, k1, k2, k3, k5, ho, h5, He.eqO_ok h6⟩
    · cases h
  · cases h
def cellB (K : PySem.W.Frag) (C f : Addr) (qual file : Str) : Bool := match K.lookup f with
  | some ⟨_, _, .func fd, _⟩ => (match fd.closure, fd.code with
    | [(_, cc)], .ref cda => (match K.lookup cc with
      | some ⟨_, _, .cell (some (.ref C')), _⟩ => C' == C
      | _ => false) && (PySem.W.codeIn K (.ref cda) qual && (match K.lookup cda with
        | some ⟨_, _, .fields vs, _⟩ => (match (vs[2]? : Option Value) with
          | some (.str z _) => file == z
          | _ => false)
        | _ => false))
    | _, _ => false)
  | _ => false
def excB (K : PySem.W.Frag) (D : Addr) : Bool := He.eqO (PySem.W.findIn K (.ref D) "__getattribute__") (some (some (.builtin "BaseException.__getattribute__"))) && (He.eqO (PySem.W.findIn K (.ref D) "__getattr__") (some none) && (decide (PySem.W.subIn K (.ref D) (.type "BaseException") = some true) && (PySem.W.hasDictIn K D &&
  (He.eqO (PySem.W.findIn K (.ref D) "__class__") (some (some (.builtin "object.__class__"))) && (He.eqO (PySem.W.specialIn K (.builtin "object.__class__") "__get__") (some (some (.builtin "getset_descriptor.__get__"))) && (decide (PySem.W.takesIn K (.builtin "object.__class__") = some true) && decide (PySem.W.mroIn K D (.type "object") = some true)))))))
theorem excB_ok {K : PySem.W.Frag} {D : Addr} (h : excB K D = true) : ExcC K D ∧ XfC K D := by
  obtain ⟨h1, h⟩ := He.ba h
  obtain ⟨h2, h⟩ := He.ba h
  obtain ⟨h3, h⟩ := He.ba h
  obtain ⟨h4, h⟩ := He.ba h
  obtain ⟨h5, h⟩ := He.ba h
  obtain ⟨h6, h⟩ := He.ba h
  obtain ⟨h7, h8⟩ := He.ba h
  exact ⟨⟨He.eqO_ok h1, He.eqO_ok h2, of_decide_eq_true h3, h4, He.eqO_ok h5, He.eqO_ok h6, of_decide_eq_true h7, of_decide_eq_true h8⟩, ⟨He.eqO_ok h1, He.eqO_ok h2, of_decide_eq_true h3, h4⟩⟩
def xB (K : PySem.W.Frag) (C f : Addr) (y qual file : Str) : Bool := clsB K C && (He.eqO (PySem.W.findIn K (.ref C) "__setattr__") (some (some (.builtin "object.__setattr__"))) && (He.eqO (PySem.W.findIn K (.ref C) y) (some none) && (He.eqO (PySem.W.findIn K (.ref C) "__init__") (some (some (.ref f))) &&
  (decide (PySem.W.typeIn K (.ref f) = some (.type "function")) && (PySem.W.keepIn K (.ref C) && (He.eqO (PySem.W.nsIn K cStatics "thirdparty.any") (some none) && (He.eqO (PySem.W.nsIn K mainGlobals "super") (some none) && cellB K C f qual file)))))))
theorem xB_ok {K : PySem.W.Frag} {prog : Program} {C f : Addr} {y qual : Str} {st : Stmt} {p1 p2 q1 q2 q3 q4 q5 q6 q7 q8 q9 q10 : Pos} (h : xB K C f y qual prog.main.file = true) (e : exAt K f = exOf qual st) (yo : Sx.YOk y) (top : (prog.main.scope.names.lookup ("super" : Str)).isSome = false)
    (ea : defArgs st = Sx.iArgs y p1 p2) (eb : defBody st = [Sx.iSup y q1 q2 q3 q4 q5 q6, Sx.iSet y q7 q8 q9 q10]) (es : defScope st = Sx.iScope y) (hp : (q3.endLine == q5.line) = true) : Sx.XTxt K prog y C f := by
  obtain ⟨h1, h⟩ := He.ba h
  obtain ⟨h2, h⟩ := He.ba h
  obtain ⟨h3, h⟩ := He.ba h
  obtain ⟨h4, h⟩ := He.ba h
  obtain ⟨h5, h⟩ := He.ba h
  obtain ⟨h6, h⟩ := He.ba h
  obtain ⟨h7, h⟩ := He.ba h
  obtain ⟨h8, h9⟩ := He.ba h
  refine ⟨clsB_ok h1, He.eqO_ok h2, He.eqO_ok h3, He.eqO_ok h4, of_decide_eq_true h5, h6, He.eqO_ok h7, He.eqO_ok h8, yo, top, ?_⟩
  unfold exAt at e
  unfold cellB at h9
  cases q : K.lookup f with
  | none => rw [q] at e; cases e
  | some o =>
    obtain ⟨oc, od, dt, osl⟩ := o
    rw [q] at e h9
    cases dt with
    | func fd =>
      obtain ⟨n1, n2, n3, n4, n5, n6, n7, n8, n9, n10, n11, n12, n13, n14, n15⟩ := fd
      have e2 : (some (n1, n2, n3, n4, n5, n6, n7.map (·.1), n8, n9, n15) : ExV) = exOf qual st := e
      unfold exOf at e2
      simp only [Option.some.injEq, Prod.mk.injEq] at e2
      obtain ⟨g1, g2, g3, g4, g5, g6, g7, g8, g9, g10⟩ := e2
      subst g1 g2 g3 g4 g5 g6 g8 g9 g10
      dsimp only at h9
      split at h9
      · rename_i nm0 cc cda
        simp only [List.map_cons, List.map_nil, List.cons.injEq, and_true] at g7
        subst g7
        obtain ⟨k1, k2⟩ := He.ba h9
        obtain ⟨k2, k3⟩ := He.ba k2
        refine ⟨oc, od, n2, n10, n11, n12, cda, cc, n14, osl, p1, p2, q1, q2, q3, q4, q5, q6, q7, q8, q9, q10, by rw [ea, eb, es], k2, ?_, hp, ?_⟩
        · split at k3
          · rename_i hl
            split at k3
            · rename_i z tf hv
              exact ⟨_, _, _, _, _, _, hl, hv, k3⟩
            · cases k3
          · cases k3
        · split at k1
          · rename_i hl
            obtain rfl := beq_iff_eq.mp k1
            exact ⟨_, _, _, hl⟩
          · cases k1
      · cases h9
    | _ => cases e
/-! ### the Hook -/
abbrev AlX : Type := He.AlD × Bool × List ExV
def asX (g : Addr → Option Obj) (n : Nat) : List Addr := cStatics :: He.asD g n
def obsX (fa : List He.Fa) (fn : List He.DefD) (xb : PySem.W.Frag → Bool) (xs : List Str) (K : PySem.W.Frag) : AlX := (He.obsD fa fn K, xb K, xs.map fun x => exAt K (He.ma K (He.ga K x) "__init__"))
def valX (fn : List He.DefD) (vs : List ExV) : AlX := (He.valD fn, true, vs)
def obsXG (n : Nat) (fa : List He.Fa) (fn : List He.DefD) (xb : PySem.W.Frag → Bool) (xs : List Str) (g : Addr → Option Obj) : AlX := obsX fa fn xb xs (He.frG g (asX g n))
def hookX (n : Nat) (fa : List He.Fa) (fn : List He.DefD) (xb : PySem.W.Frag → Bool) (xs : List Str) (vs : List ExV) : PySem.W.Hook where
  α := AlX
  obs := fun s => obsXG n fa fn xb xs s.heap.get?
  val := fun _ => valX fn vs
  says := fun _ h => ∃ K : PySem.W.Frag, K.In h ∧ obsX fa fn xb xs K = valX fn vs
  of := fun _ _ e => ⟨_, He.frG_in, e⟩
  keeps := fun _ _ _ ⟨K, hK, c⟩ k => ⟨K, PySem.W.Frag.In.keeps hK k, c⟩
theorem obsXG_eq {n : Nat} {fa : List He.Fa} {fn : List He.DefD} {xb : PySem.W.Frag → Bool} {xs : List Str} {vs : List ExV} {g : Addr → Option Obj} {s : Shared} (h : ∀ a, g a = s.heap.get? a) : obsXG n fa fn xb xs g = (hookX n fa fn xb xs vs).obs s := by
  have e : g = s.heap.get? := funext h
  rw [e] <;> rfl
end Lw
namespace Lw
open PySem PySem.Spec PyProof.Rows L2
theorem y_distances : Sx.YOk "distances" := ⟨by decide, by decide, by decide, by decide, fun _ _ _ _ _ _ _ _ _ _ _ _ => rfl, fun _ _ _ _ _ _ _ _ _ _ _ _ => rfl⟩
theorem y_lag : Sx.YOk "lag" := ⟨by decide, by decide, by decide, by decide, fun _ _ _ _ _ _ _ _ _ _ _ _ => rfl, fun _ _ _ _ _ _ _ _ _ _ _ _ => rfl⟩
theorem y_late : Sx.YOk "late" := ⟨by decide, by decide, by decide, by decide, fun _ _ _ _ _ _ _ _ _ _ _ _ => rfl, fun _ _ _ _ _ _ _ _ _ _ _ _ => rfl⟩
theorem y_line : Sx.YOk "line" := ⟨by decide, by decide, by decide, by decide, fun _ _ _ _ _ _ _ _ _ _ _ _ => rfl, fun _ _ _ _ _ _ _ _ _ _ _ _ => rfl⟩
theorem y_many : Sx.YOk "many" := ⟨by decide, by decide, by decide, by decide, fun _ _ _ _ _ _ _ _ _ _ _ _ => rfl, fun _ _ _ _ _ _ _ _ _ _ _ _ => rfl⟩
theorem y_meaning : Sx.YOk "meaning" := ⟨by decide, by decide, by decide, by decide, fun _ _ _ _ _ _ _ _ _ _ _ _ => rfl, fun _ _ _ _ _ _ _ _ _ _ _ _ => rfl⟩
theorem y_name : Sx.YOk "name" := ⟨by decide, by decide, by decide, by decide, fun _ _ _ _ _ _ _ _ _ _ _ _ => rfl, fun _ _ _ _ _ _ _ _ _ _ _ _ => rfl⟩
theorem y_net : Sx.YOk "net" := ⟨by decide, by decide, by decide, by decide, fun _ _ _ _ _ _ _ _ _ _ _ _ => rfl, fun _ _ _ _ _ _ _ _ _ _ _ _ => rfl⟩
theorem y_period : Sx.YOk "period" := ⟨by decide, by decide, by decide, by decide, fun _ _ _ _ _ _ _ _ _ _ _ _ => rfl, fun _ _ _ _ _ _ _ _ _ _ _ _ => rfl⟩
theorem y_thing : Sx.YOk "thing" := ⟨by decide, by decide, by decide, by decide, fun _ _ _ _ _ _ _ _ _ _ _ _ => rfl, fun _ _ _ _ _ _ _ _ _ _ _ _ => rfl⟩
theorem y_time : Sx.YOk "time" := ⟨by decide, by decide, by decide, by decide, fun _ _ _ _ _ _ _ _ _ _ _ _ => rfl, fun _ _ _ _ _ _ _ _ _ _ _ _ => rfl⟩
theorem y_times : Sx.YOk "times" := ⟨by decide, by decide, by decide, by decide, fun _ _ _ _ _ _ _ _ _ _ _ _ => rfl, fun _ _ _ _ _ _ _ _ _ _ _ _ => rfl⟩
def loose : List PySem.Str := ["NetError", "BadBoxes", "BadBox", "BadOutputs", "BadOutput", "Ring", "BadTime", "TooLong", "BadMeaning", "BadNet", "BadLate", "BadTimes", "BadDistances", "BadPeriod", "HasNet", "BadInput", "BadLag", "BadText", "BadMany", "_law_fresh", "_law_fill", "_law_take", "_law_one", "_law_same", "_law_with_one", "_law_by_place", "_law_held", "_law_classes"]
def fa : List He.Fa := [.glo "_law_fresh", .glo "_law_fill", .glo "_law_take", .glo "_law_one", .glo "_law_same", .glo "_law_with_one", .glo "_law_by_place", .glo "_law_held", .glo "_law_classes", .glo "law", .glo "NetError", .glo "BadBoxes", .glo "BadBox", .glo "BadOutputs", .glo "BadOutput", .glo "Ring", .glo "BadTime", .glo "TooLong", .glo "BadMeaning", .glo "BadNet", .glo "BadLate", .glo "BadTimes", .glo "BadDistances", .glo "BadPeriod", .glo "HasNet", .glo "BadInput", .glo "BadLag", .glo "BadText", .glo "BadMany", .free "ArithmeticError", .free "LookupError", .free "TypeError", .free "ValueError", .free "all", .free "bool", .free "enumerate", .free "int", .free "isinstance", .free "len", .free "list", .free "range", .free "tuple", .free "zip"]
def fn : List He.DefD := [⟨("_law_fresh", none), "_law_fresh", "_law_fresh", defArgs s_fresh, defBody s_fresh, defScope s_fresh, [], []⟩, ⟨("_law_fill", none), "_law_fill", "_law_fill", defArgs s_fill, defBody s_fill, defScope s_fill, [], []⟩, ⟨("_law_take", none), "_law_take", "_law_take", defArgs s_take, defBody s_take, defScope s_take, [], []⟩, ⟨("_law_one", none), "_law_one", "_law_one", defArgs s_one, defBody s_one, defScope s_one, [], []⟩, ⟨("_law_same", none), "_law_same", "_law_same", defArgs s_same, defBody s_same, defScope s_same, [], []⟩, ⟨("_law_with_one", none), "_law_with_one", "_law_with_one", defArgs s_with_one, defBody s_with_one, defScope s_with_one, [], []⟩, ⟨("_law_by_place", none), "_law_by_place", "_law_by_place", defArgs s_by_place, defBody s_by_place, defScope s_by_place, [], []⟩, ⟨("_law_held", none), "_law_held", "_law_held", defArgs s_held, defBody s_held, defScope s_held, [], []⟩, ⟨("_law_classes", none), "_law_classes", "_law_classes", defArgs s_classes, defBody s_classes, defScope s_classes, [], []⟩, ⟨("law", none), "law", "law", defArgs s_law, defBody s_law, defScope s_law, [], []⟩]
def xs : List Str := ["BadBoxes", "BadBox", "BadOutputs", "BadOutput", "Ring", "BadTime", "TooLong", "BadMeaning", "BadNet", "BadLate", "BadTimes", "BadDistances", "BadPeriod", "HasNet", "BadInput", "BadLag", "BadText", "BadMany"]
def vs : List ExV := [exOf "BadBoxes.__init__" (inClass (top 2) 0), exOf "BadBox.__init__" (inClass (top 3) 0), exOf "BadOutputs.__init__" (inClass (top 4) 0), exOf "BadOutput.__init__" (inClass (top 5) 0), exOf "Ring.__init__" (inClass (top 6) 0), exOf "BadTime.__init__" (inClass (top 7) 0), exOf "TooLong.__init__" (inClass (top 8) 0), exOf "BadMeaning.__init__" (inClass (top 9) 0), exOf "BadNet.__init__" (inClass (top 10) 0), exOf "BadLate.__init__" (inClass (top 11) 0), exOf "BadTimes.__init__" (inClass (top 12) 0), exOf "BadDistances.__init__" (inClass (top 13) 0), exOf "BadPeriod.__init__" (inClass (top 14) 0), exOf "HasNet.__init__" (inClass (top 15) 0), exOf "BadInput.__init__" (inClass (top 16) 0), exOf "BadLag.__init__" (inClass (top 17) 0), exOf "BadText.__init__" (inClass (top 18) 0), exOf "BadMany.__init__" (inClass (top 19) 0)]
abbrev PR : Program := PySem.Challenge.pw_laternets_k01_errors_made
def csl (K : PySem.W.Frag) : List (Addr × Str) := [(He.ga K "BadBoxes", "thing"), (He.ga K "BadBox", "name"), (He.ga K "BadOutputs", "thing"), (He.ga K "BadOutput", "name"), (He.ga K "Ring", "name"), (He.ga K "BadTime", "time"), (He.ga K "TooLong", "time"), (He.ga K "BadMeaning", "meaning"), (He.ga K "BadNet", "net"), (He.ga K "BadLate", "late"), (He.ga K "BadTimes", "times"), (He.ga K "BadDistances", "distances"), (He.ga K "BadPeriod", "period"), (He.ga K "HasNet", "period"), (He.ga K "BadInput", "name"), (He.ga K "BadLag", "lag"), (He.ga K "BadText", "line"), (He.ga K "BadMany", "many")]
def clk (K : PySem.W.Frag) (i : Nat) : Addr := ((csl K).getD i (0, "")).1
def kitB18 (K : PySem.W.Frag) : Bool := (List.range 18).all fun i => ((List.range 18).all fun j => decide (PySem.W.kitOne K (.ref (clk K i)) (.ref (clk K j)) = some (decide (i = j)))) &&
  (decide (PySem.W.kitOne K (.ref (clk K i)) (.ref (He.ga K "NetError")) = some true) && (decide (PySem.W.kitOne K (.ref (clk K i)) (.type "ValueError") = some true) && (decide (PySem.W.kitAny K (.ref (clk K i)) (["LookupError", "TypeError", "ArithmeticError"].map Value.type) = some false) &&
  decide (PySem.W.kitOne K (.ref (He.ga K "NetError")) (.ref (clk K i)) = some false))))
def netB (K : PySem.W.Frag) : Bool := PySem.W.excIn K (He.ga K "NetError") veM "ValueError.__new__" && (PySem.W.keepIn K (.ref (He.ga K "NetError")) && (excB K (He.ga K "NetError") && decide (PySem.W.kitOne K (.ref (He.ga K "NetError")) (.type "ValueError") = some true)))
def clL (K : PySem.W.Frag) : List Bool := [xB K (He.ga K "BadBoxes") (He.ma K (He.ga K "BadBoxes") "__init__") "thing" "BadBoxes.__init__" PR.main.file && excB K (He.ga K "BadBoxes"), xB K (He.ga K "BadBox") (He.ma K (He.ga K "BadBox") "__init__") "name" "BadBox.__init__" PR.main.file && excB K (He.ga K "BadBox"), xB K (He.ga K "BadOutputs") (He.ma K (He.ga K "BadOutputs") "__init__") "thing" "BadOutputs.__init__" PR.main.file && excB K (He.ga K "BadOutputs"), xB K (He.ga K "BadOutput") (He.ma K (He.ga K "BadOutput") "__init__") "name" "BadOutput.__init__" PR.main.file && excB K (He.ga K "BadOutput"), xB K (He.ga K "Ring") (He.ma K (He.ga K "Ring") "__init__") "name" "Ring.__init__" PR.main.file && excB K (He.ga K "Ring"), xB K (He.ga K "BadTime") (He.ma K (He.ga K "BadTime") "__init__") "time" "BadTime.__init__" PR.main.file && excB K (He.ga K "BadTime"), xB K (He.ga K "TooLong") (He.ma K (He.ga K "TooLong") "__init__") "time" "TooLong.__init__" PR.main.file && excB K (He.ga K "TooLong"), xB K (He.ga K "BadMeaning") (He.ma K (He.ga K "BadMeaning") "__init__") "meaning" "BadMeaning.__init__" PR.main.file && excB K (He.ga K "BadMeaning"), xB K (He.ga K "BadNet") (He.ma K (He.ga K "BadNet") "__init__") "net" "BadNet.__init__" PR.main.file && excB K (He.ga K "BadNet"), xB K (He.ga K "BadLate") (He.ma K (He.ga K "BadLate") "__init__") "late" "BadLate.__init__" PR.main.file && excB K (He.ga K "BadLate"), xB K (He.ga K "BadTimes") (He.ma K (He.ga K "BadTimes") "__init__") "times" "BadTimes.__init__" PR.main.file && excB K (He.ga K "BadTimes"), xB K (He.ga K "BadDistances") (He.ma K (He.ga K "BadDistances") "__init__") "distances" "BadDistances.__init__" PR.main.file && excB K (He.ga K "BadDistances"), xB K (He.ga K "BadPeriod") (He.ma K (He.ga K "BadPeriod") "__init__") "period" "BadPeriod.__init__" PR.main.file && excB K (He.ga K "BadPeriod"), xB K (He.ga K "HasNet") (He.ma K (He.ga K "HasNet") "__init__") "period" "HasNet.__init__" PR.main.file && excB K (He.ga K "HasNet"), xB K (He.ga K "BadInput") (He.ma K (He.ga K "BadInput") "__init__") "name" "BadInput.__init__" PR.main.file && excB K (He.ga K "BadInput"), xB K (He.ga K "BadLag") (He.ma K (He.ga K "BadLag") "__init__") "lag" "BadLag.__init__" PR.main.file && excB K (He.ga K "BadLag"), xB K (He.ga K "BadText") (He.ma K (He.ga K "BadText") "__init__") "line" "BadText.__init__" PR.main.file && excB K (He.ga K "BadText"), xB K (He.ga K "BadMany") (He.ma K (He.ga K "BadMany") "__init__") "many" "BadMany.__init__" PR.main.file && excB K (He.ga K "BadMany")]
def xb (K : PySem.W.Frag) : Bool := (clL K).all id && (kitB18 K && netB K)
theorem all_at {l : List Bool} (h : l.all id = true) (i : Nat) {b : Bool} (e : l[i]? = some b) : b = true := List.all_eq_true.mp h b (List.mem_of_getElem? e)
theorem facts {w : World} {K : PySem.W.Frag} {h : Heap} {mg : Str → Option Value} {f : Addr} (X : K.In h) (G : h.Ns mainGlobals mg) (hfa : mg ("law" : Str) = some (.ref f)) (c : obsX fa fn xb xs K = valX fn vs) :
    ∃ fd : FuncData, (∀ (s : Shared) (v : Value), BindsTo s fd ⟨[v], []⟩ [("_law_script", v)]) ∧ ∀ base : Heap, K.In base → base.Ns mainGlobals mg → FnOk PR w K mg base CX0 5 f fd ["_law_script"] (spLaw K) := by
  have c1 : He.SaysD fa fn K := congrArg (fun z : AlX => z.1) c
  have c2 : xb K = true := congrArg (fun z : AlX => z.2.1) c
  have c3 : (xs.map fun x => exAt K (He.ma K (He.ga K x) "__init__")) = vs := congrArg (fun z : AlX => z.2.2) c
  obtain ⟨b1, b2⟩ := He.ba c2
  obtain ⟨b2, b3⟩ := He.ba b2
  obtain ⟨n1, n2⟩ := He.ba b3
  obtain ⟨n2, n3⟩ := He.ba n2
  obtain ⟨n3, n4⟩ := He.ba n3
  have ex : ∀ (i : Nat) (e v : ExV), (xs.map fun x => exAt K (He.ma K (He.ga K x) "__init__"))[i]? = some e → vs[i]? = some v → e = v := fun i e v h1 h2 => by
    rw [c3, h2] at h1
    exact (Option.some.inj h1).symm
  obtain ⟨d0, F0⟩ := c1.def_ 0 rfl
  obtain ⟨d1, F1⟩ := c1.def_ 1 rfl
  obtain ⟨d2, F2⟩ := c1.def_ 2 rfl
  obtain ⟨d3, F3⟩ := c1.def_ 3 rfl
  obtain ⟨d4, F4⟩ := c1.def_ 4 rfl
  obtain ⟨d5, F5⟩ := c1.def_ 5 rfl
  obtain ⟨d6, F6⟩ := c1.def_ 6 rfl
  obtain ⟨d7, F7⟩ := c1.def_ 7 rfl
  obtain ⟨d8, F8⟩ := c1.def_ 8 rfl
  obtain ⟨d9, F9⟩ := c1.def_ 9 rfl
  let T : Txt PR K mg := {
    a_fresh := He.ga K "_law_fresh",
    d_fresh := d0,
    F_fresh := F0,
    g_fresh := He.glo_ok X G (c1.fact 0 rfl),
    b_fresh := F0.bindsN fun _ _ _ _ _ _ us hl => match us, hl with | [_], _ => rfl,
    a_fill := He.ga K "_law_fill",
    d_fill := d1,
    F_fill := F1,
    g_fill := He.glo_ok X G (c1.fact 1 rfl),
    b_fill := F1.bindsN fun _ _ _ _ _ _ us hl => match us, hl with | [_], _ => rfl,
    a_take := He.ga K "_law_take",
    d_take := d2,
    F_take := F2,
    g_take := He.glo_ok X G (c1.fact 2 rfl),
    b_take := F2.bindsN fun _ _ _ _ _ _ us hl => match us, hl with | [_, _], _ => rfl,
    a_one := He.ga K "_law_one",
    d_one := d3,
    F_one := F3,
    g_one := He.glo_ok X G (c1.fact 3 rfl),
    b_one := F3.bindsN fun _ _ _ _ _ _ us hl => match us, hl with | [_, _], _ => rfl,
    a_same := He.ga K "_law_same",
    d_same := d4,
    F_same := F4,
    g_same := He.glo_ok X G (c1.fact 4 rfl),
    b_same := F4.bindsN fun _ _ _ _ _ _ us hl => match us, hl with | [_, _], _ => rfl,
    a_with_one := He.ga K "_law_with_one",
    d_with_one := d5,
    F_with_one := F5,
    g_with_one := He.glo_ok X G (c1.fact 5 rfl),
    b_with_one := F5.bindsN fun _ _ _ _ _ _ us hl => match us, hl with | [_], _ => rfl,
    a_by_place := He.ga K "_law_by_place",
    d_by_place := d6,
    F_by_place := F6,
    g_by_place := He.glo_ok X G (c1.fact 6 rfl),
    b_by_place := F6.bindsN fun _ _ _ _ _ _ us hl => match us, hl with | [_], _ => rfl,
    a_held := He.ga K "_law_held",
    d_held := d7,
    F_held := F7,
    g_held := He.glo_ok X G (c1.fact 7 rfl),
    b_held := F7.bindsN fun _ _ _ _ _ _ us hl => match us, hl with | [_], _ => rfl,
    a_classes := He.ga K "_law_classes",
    d_classes := d8,
    F_classes := F8,
    g_classes := He.glo_ok X G (c1.fact 8 rfl),
    b_classes := F8.bindsN fun _ _ _ _ _ _ us hl => match us, hl with | [_], _ => rfl,
    a_law := He.ga K "law",
    d_law := d9,
    F_law := F9,
    b_law := F9.bindsN fun _ _ _ _ _ _ us hl => match us, hl with | [_], _ => rfl,
    c_NetError := He.ga K "NetError",
    g_NetError := He.glo_ok X G (c1.fact 10 rfl),
    e_NetError := (excB_ok n3).1,
    x_NetError := n1,
    k_NetError := n2,
    c_BadBoxes := He.ga K "BadBoxes",
    g_BadBoxes := He.glo_ok X G (c1.fact 11 rfl),
    e_BadBoxes := (excB_ok (He.ba (all_at b1 0 rfl)).2).1,
    f_BadBoxes := He.ma K (He.ga K "BadBoxes") "__init__",
    X_BadBoxes := xB_ok (st := inClass (top 2) 0) (He.ba (all_at b1 0 rfl)).1 (ex 0 _ _ rfl rfl) y_thing (by decide +kernel) rfl rfl rfl rfl,
    y_BadBoxes := (excB_ok (He.ba (all_at b1 0 rfl)).2).2,
    c_BadBox := He.ga K "BadBox",
    g_BadBox := He.glo_ok X G (c1.fact 12 rfl),
    e_BadBox := (excB_ok (He.ba (all_at b1 1 rfl)).2).1,
    f_BadBox := He.ma K (He.ga K "BadBox") "__init__",
    X_BadBox := xB_ok (st := inClass (top 3) 0) (He.ba (all_at b1 1 rfl)).1 (ex 1 _ _ rfl rfl) y_name (by decide +kernel) rfl rfl rfl rfl,
    y_BadBox := (excB_ok (He.ba (all_at b1 1 rfl)).2).2,
    c_BadOutputs := He.ga K "BadOutputs",
    g_BadOutputs := He.glo_ok X G (c1.fact 13 rfl),
    e_BadOutputs := (excB_ok (He.ba (all_at b1 2 rfl)).2).1,
    f_BadOutputs := He.ma K (He.ga K "BadOutputs") "__init__",
    X_BadOutputs := xB_ok (st := inClass (top 4) 0) (He.ba (all_at b1 2 rfl)).1 (ex 2 _ _ rfl rfl) y_thing (by decide +kernel) rfl rfl rfl rfl,
    y_BadOutputs := (excB_ok (He.ba (all_at b1 2 rfl)).2).2,
    c_BadOutput := He.ga K "BadOutput",
    g_BadOutput := He.glo_ok X G (c1.fact 14 rfl),
    e_BadOutput := (excB_ok (He.ba (all_at b1 3 rfl)).2).1,
    f_BadOutput := He.ma K (He.ga K "BadOutput") "__init__",
    X_BadOutput := xB_ok (st := inClass (top 5) 0) (He.ba (all_at b1 3 rfl)).1 (ex 3 _ _ rfl rfl) y_name (by decide +kernel) rfl rfl rfl rfl,
    y_BadOutput := (excB_ok (He.ba (all_at b1 3 rfl)).2).2,
    c_Ring := He.ga K "Ring",
    g_Ring := He.glo_ok X G (c1.fact 15 rfl),
    e_Ring := (excB_ok (He.ba (all_at b1 4 rfl)).2).1,
    f_Ring := He.ma K (He.ga K "Ring") "__init__",
    X_Ring := xB_ok (st := inClass (top 6) 0) (He.ba (all_at b1 4 rfl)).1 (ex 4 _ _ rfl rfl) y_name (by decide +kernel) rfl rfl rfl rfl,
    y_Ring := (excB_ok (He.ba (all_at b1 4 rfl)).2).2,
    c_BadTime := He.ga K "BadTime",
    g_BadTime := He.glo_ok X G (c1.fact 16 rfl),
    e_BadTime := (excB_ok (He.ba (all_at b1 5 rfl)).2).1,
    f_BadTime := He.ma K (He.ga K "BadTime") "__init__",
    X_BadTime := xB_ok (st := inClass (top 7) 0) (He.ba (all_at b1 5 rfl)).1 (ex 5 _ _ rfl rfl) y_time (by decide +kernel) rfl rfl rfl rfl,
    y_BadTime := (excB_ok (He.ba (all_at b1 5 rfl)).2).2,
    c_TooLong := He.ga K "TooLong",
    g_TooLong := He.glo_ok X G (c1.fact 17 rfl),
    e_TooLong := (excB_ok (He.ba (all_at b1 6 rfl)).2).1,
    f_TooLong := He.ma K (He.ga K "TooLong") "__init__",
    X_TooLong := xB_ok (st := inClass (top 8) 0) (He.ba (all_at b1 6 rfl)).1 (ex 6 _ _ rfl rfl) y_time (by decide +kernel) rfl rfl rfl rfl,
    y_TooLong := (excB_ok (He.ba (all_at b1 6 rfl)).2).2,
    c_BadMeaning := He.ga K "BadMeaning",
    g_BadMeaning := He.glo_ok X G (c1.fact 18 rfl),
    e_BadMeaning := (excB_ok (He.ba (all_at b1 7 rfl)).2).1,
    f_BadMeaning := He.ma K (He.ga K "BadMeaning") "__init__",
    X_BadMeaning := xB_ok (st := inClass (top 9) 0) (He.ba (all_at b1 7 rfl)).1 (ex 7 _ _ rfl rfl) y_meaning (by decide +kernel) rfl rfl rfl rfl,
    y_BadMeaning := (excB_ok (He.ba (all_at b1 7 rfl)).2).2,
    c_BadNet := He.ga K "BadNet",
    g_BadNet := He.glo_ok X G (c1.fact 19 rfl),
    e_BadNet := (excB_ok (He.ba (all_at b1 8 rfl)).2).1,
    f_BadNet := He.ma K (He.ga K "BadNet") "__init__",
    X_BadNet := xB_ok (st := inClass (top 10) 0) (He.ba (all_at b1 8 rfl)).1 (ex 8 _ _ rfl rfl) y_net (by decide +kernel) rfl rfl rfl rfl,
    y_BadNet := (excB_ok (He.ba (all_at b1 8 rfl)).2).2,
    c_BadLate := He.ga K "BadLate",
    g_BadLate := He.glo_ok X G (c1.fact 20 rfl),
    e_BadLate := (excB_ok (He.ba (all_at b1 9 rfl)).2).1,
    f_BadLate := He.ma K (He.ga K "BadLate") "__init__",
    X_BadLate := xB_ok (st := inClass (top 11) 0) (He.ba (all_at b1 9 rfl)).1 (ex 9 _ _ rfl rfl) y_late (by decide +kernel) rfl rfl rfl rfl,
    y_BadLate := (excB_ok (He.ba (all_at b1 9 rfl)).2).2,
    c_BadTimes := He.ga K "BadTimes",
    g_BadTimes := He.glo_ok X G (c1.fact 21 rfl),
    e_BadTimes := (excB_ok (He.ba (all_at b1 10 rfl)).2).1,
    f_BadTimes := He.ma K (He.ga K "BadTimes") "__init__",
    X_BadTimes := xB_ok (st := inClass (top 12) 0) (He.ba (all_at b1 10 rfl)).1 (ex 10 _ _ rfl rfl) y_times (by decide +kernel) rfl rfl rfl rfl,
    y_BadTimes := (excB_ok (He.ba (all_at b1 10 rfl)).2).2,
    c_BadDistances := He.ga K "BadDistances",
    g_BadDistances := He.glo_ok X G (c1.fact 22 rfl),
    e_BadDistances := (excB_ok (He.ba (all_at b1 11 rfl)).2).1,
    f_BadDistances := He.ma K (He.ga K "BadDistances") "__init__",
    X_BadDistances := xB_ok (st := inClass (top 13) 0) (He.ba (all_at b1 11 rfl)).1 (ex 11 _ _ rfl rfl) y_distances (by decide +kernel) rfl rfl rfl rfl,
    y_BadDistances := (excB_ok (He.ba (all_at b1 11 rfl)).2).2,
    c_BadPeriod := He.ga K "BadPeriod",
    g_BadPeriod := He.glo_ok X G (c1.fact 23 rfl),
    e_BadPeriod := (excB_ok (He.ba (all_at b1 12 rfl)).2).1,
    f_BadPeriod := He.ma K (He.ga K "BadPeriod") "__init__",
    X_BadPeriod := xB_ok (st := inClass (top 14) 0) (He.ba (all_at b1 12 rfl)).1 (ex 12 _ _ rfl rfl) y_period (by decide +kernel) rfl rfl rfl rfl,
    y_BadPeriod := (excB_ok (He.ba (all_at b1 12 rfl)).2).2,
    c_HasNet := He.ga K "HasNet",
    g_HasNet := He.glo_ok X G (c1.fact 24 rfl),
    e_HasNet := (excB_ok (He.ba (all_at b1 13 rfl)).2).1,
    f_HasNet := He.ma K (He.ga K "HasNet") "__init__",
    X_HasNet := xB_ok (st := inClass (top 15) 0) (He.ba (all_at b1 13 rfl)).1 (ex 13 _ _ rfl rfl) y_period (by decide +kernel) rfl rfl rfl rfl,
    y_HasNet := (excB_ok (He.ba (all_at b1 13 rfl)).2).2,
    c_BadInput := He.ga K "BadInput",
    g_BadInput := He.glo_ok X G (c1.fact 25 rfl),
    e_BadInput := (excB_ok (He.ba (all_at b1 14 rfl)).2).1,
    f_BadInput := He.ma K (He.ga K "BadInput") "__init__",
    X_BadInput := xB_ok (st := inClass (top 16) 0) (He.ba (all_at b1 14 rfl)).1 (ex 14 _ _ rfl rfl) y_name (by decide +kernel) rfl rfl rfl rfl,
    y_BadInput := (excB_ok (He.ba (all_at b1 14 rfl)).2).2,
    c_BadLag := He.ga K "BadLag",
    g_BadLag := He.glo_ok X G (c1.fact 26 rfl),
    e_BadLag := (excB_ok (He.ba (all_at b1 15 rfl)).2).1,
    f_BadLag := He.ma K (He.ga K "BadLag") "__init__",
    X_BadLag := xB_ok (st := inClass (top 17) 0) (He.ba (all_at b1 15 rfl)).1 (ex 15 _ _ rfl rfl) y_lag (by decide +kernel) rfl rfl rfl rfl,
    y_BadLag := (excB_ok (He.ba (all_at b1 15 rfl)).2).2,
    c_BadText := He.ga K "BadText",
    g_BadText := He.glo_ok X G (c1.fact 27 rfl),
    e_BadText := (excB_ok (He.ba (all_at b1 16 rfl)).2).1,
    f_BadText := He.ma K (He.ga K "BadText") "__init__",
    X_BadText := xB_ok (st := inClass (top 18) 0) (He.ba (all_at b1 16 rfl)).1 (ex 16 _ _ rfl rfl) y_line (by decide +kernel) rfl rfl rfl rfl,
    y_BadText := (excB_ok (He.ba (all_at b1 16 rfl)).2).2,
    c_BadMany := He.ga K "BadMany",
    g_BadMany := He.glo_ok X G (c1.fact 28 rfl),
    e_BadMany := (excB_ok (He.ba (all_at b1 17 rfl)).2).1,
    f_BadMany := He.ma K (He.ga K "BadMany") "__init__",
    X_BadMany := xB_ok (st := inClass (top 19) 0) (He.ba (all_at b1 17 rfl)).1 (ex 17 _ _ rfl rfl) y_many (by decide +kernel) rfl rfl rfl rfl,
    y_BadMany := (excB_ok (He.ba (all_at b1 17 rfl)).2).2,
    n_ArithmeticError := He.free_ok X G (c1.fact 29 rfl),
    n_LookupError := He.free_ok X G (c1.fact 30 rfl),
    n_TypeError := He.free_ok X G (c1.fact 31 rfl),
    n_ValueError := He.free_ok X G (c1.fact 32 rfl),
    n_all := He.free_ok X G (c1.fact 33 rfl),
    n_bool := He.free_ok X G (c1.fact 34 rfl),
    n_enumerate := He.free_ok X G (c1.fact 35 rfl),
    n_int := He.free_ok X G (c1.fact 36 rfl),
    n_isinstance := He.free_ok X G (c1.fact 37 rfl),
    n_len := He.free_ok X G (c1.fact 38 rfl),
    n_list := He.free_ok X G (c1.fact 39 rfl),
    n_range := He.free_ok X G (c1.fact 40 rfl),
    n_tuple := He.free_ok X G (c1.fact 41 rfl),
    n_zip := He.free_ok X G (c1.fact 42 rfl) }
  have kb := fun (i : Nat) (hi : i < 18) => List.all_eq_true.mp b2 i (List.mem_range.mpr hi)
  have U : Txx T := {
    kk := fun i hi j hj => of_decide_eq_true (List.all_eq_true.mp (He.ba (kb i hi)).1 j (List.mem_range.mpr hj)),
    kn := fun i hi => of_decide_eq_true (He.ba (He.ba (kb i hi)).2).1,
    kv := fun i hi => of_decide_eq_true (He.ba (He.ba (He.ba (kb i hi)).2).2).1,
    kx := fun i hi => of_decide_eq_true (He.ba (He.ba (He.ba (He.ba (kb i hi)).2).2).2).1,
    nk := fun i hi => of_decide_eq_true (He.ba (He.ba (He.ba (He.ba (kb i hi)).2).2).2).2,
    nv := of_decide_eq_true n4 }
  have e := hfa.symm.trans (He.glo_ok X G (c1.fact 9 rfl))
  cases e
  have b := FunD.bindsA (ps := ["_law_script"]) F9 fun _ _ _ _ _ _ us hl => match us, hl with | [_], _ => rfl
  exact ⟨_, fun s v => b s [v] rfl, fun base _ _ => ok_law T U⟩
abbrev R : PySem.W.OpenRow := PySem.W.OpenLaw.row PySem.Challenge.rw_laternets_k01_errors_made
abbrev hk : PySem.W.Hook := hookX 6 fa fn xb xs vs
def ob (s : PySem.W.SharedT) : AlX := obsXG 6 fa fn xb xs (HandSHeadRun.getT s)
theorem ob_eq (s : PySem.W.SharedT) : ob s = hk.obs s.abs := obsXG_eq (HandSHeadRun.getT_eq s)
theorem run (w : World) : HandSHeadRun.RunEq R (PySem.W.view R.prog [30]) hk ob 40000 loose w := by
  intro os
  kernel_rfl
end Lw
open PySem PySem.W PySem.Calls PyProof.Rows
theorem PySem.Challenge.cw_laternets_k01_errors_made_holds : PySem.Challenge.rw_laternets_k01_errors_made.Holds := by
  w_on; o_law
  refine HandSHeadRun.head_any (r := OpenLaw.row PySem.Challenge.rw_laternets_k01_errors_made) (q := view (OpenLaw.row PySem.Challenge.rw_laternets_k01_errors_made).prog [30]) (H := Lw.hk) (ob := Lw.ob) (M := 40000) (loose := Lw.loose) (d := HandSHeadRun.topDef (OpenLaw.row PySem.Challenge.rw_laternets_k01_errors_made).prog 30) (kwd := []) Lw.ob_eq
    (by kernel_rfl) (fun s => by kernel_rfl) Lw.run (by kernel_rfl) (by kernel_rfl) (by kernel_rfl) (by rfl) (by first | assumption | decide +kernel) (by decide +kernel) ⟨rfl, rfl, rfl, rfl, rfl, by decide +kernel⟩ ?hw ?hc
  case hw => w_witness2
  case hc =>
    refine L2.walk_ofE (l := PySem.Challenge.rw_laternets_k01_errors_made) (n := 63) (k := 5) (x := "_law_script") (CX := L2.CX0) rfl (by decide) (by kernel_rfl) ⟨rfl, by decide, by decide⟩ ?F (fun _ _ _ _ z => z)
    intro w mg fa h Y G hmg0
    obtain ⟨K, KX, c⟩ := Y
    have hmg : mg ("law" : PySem.Str) = some (.ref fa) := by
      have e : (HandSHeadRun.topDef (OpenLaw.row PySem.Challenge.rw_laternets_k01_errors_made).prog 30).name = ("law" : PySem.Str) := by kernel_rfl
      rw [← e]
      exact hmg0
    obtain ⟨fd, hb, hF⟩ := Lw.facts (w := w) KX G hmg c
    exact ⟨K, fd, Lw.spLaw K, KX, hb, fun H a ns hl _ hS => ⟨a, ns, rfl, hS, hl, fun _ => rfl⟩, hF⟩
