import PyProof.Rows.All
import Wide.All
import OpenK.AllK
import Wide.FinOn
import PyProof.EqAt
import PyProof.EqKinds
import PyProof.TupleCall
import KE.KExcSuper
import HandS.ForMost
import HandS.Exc
import HandS.ExcInit
import KE.KExcIs
import HandS.Defaults
import HandS.Head0
import HandS.Head1
import HandS.Head2
import HandS.HeadEnd
import HandS.HeadHook1
import HandS.HeadHook2
import HandS.ExcIs
import HandS.Walk
import HandS.Wide
import HandS.IsInst
import HandS.Conv
import HandS.Deep
import HandS.WideBits
import HandS.More
import HandS.CallSlots
import HandS.WordsExc
import HandS.ExcOwn
import HandS.Iter
import HandS.Zip
import OpenK.KMore
import HandS.ExcValue
import HandS.ExcField
import PyProof.ReprRoads
import PyProof.ReprLen
import HandS.Ends
import HandS.Style
import HandS.Text
import PySem.Challenge.RW_keptreadings_k01_errors_made
set_option Elab.async false
set_option linter.all false
set_option maxRecDepth 100000
set_option maxHeartbeats 4000000
namespace K1
open PySem
def topS (i : Nat) : Stmt := PySem.Challenge.pw_keptreadings_k01_errors_made.main.body.getD i (.Pass ⟨0, 0, 0, 0⟩)
def own1 : List Str := ["InvalidToken", "InvalidText", "InvalidForm", "InvalidForms", "InvalidWords", "Unsound", "InvalidEdition", "InvalidEditions", "InvalidChange", "InvalidChanges", "InvalidPattern", "Fault", "InvalidKey", "InvalidTree", "UnknownForm", "InvalidPath", "InvalidSpot", "InvalidMarks", "InvalidWay", "InvalidTable"]
def own2 : List Str := ["InvalidWorkshop", "InvalidLog", "InvalidScript", "InvalidCount", "Refused", "InvalidEdit", "UnknownPlace", "InvalidReason", "InvalidStack", "InvalidRow", "InvalidLot", "InvalidSurroundings", "InvalidLook"]
def own : List Str := own1 ++ own2
def bar : List Str := ["NothingToUndo", "NothingToRedo", "TongueError"]
def every : List Str := own ++ bar
end K1
/-! # Own errors over a class over ValueError: def __init__(self, value=None): super().__init__(); self.value = value -/
namespace PySem
namespace Kex
open PySem.W PySem.Calls PyProof.Rows PySem.HandSPX
/-! ### the text of __init__ -/
def iA (p1 p2 p3 : Pos) (n : Nat) : Arguments := { posonlyargs := [], args := [{ arg := "self", annotation := none, pos := p1 }, { arg := "value", annotation := none, pos := p2 }], vararg := none, kwonlyargs := [], kw_defaults := [], kwarg := none, defaults := [.Constant .none n p3] }
def iB (q1 q2 q3 q4 q5 q6 q7 q8 q9 : Pos) : List Stmt := [.Expr (.Call (.Attribute (.Call (.Name "super" q1) [] [] q2) "__init__" q3) [] [] q4) q5, .Assign [.Attribute (.Name "self" q6) "value" q7] (.Name "value" q8) q9]
def iS : Scope := { kind := .function, names := [(PySem.Str.ofString "self", .local), (PySem.Str.ofString "value", .local), (PySem.Str.ofString "__class__", .free), (PySem.Str.ofString "super", .globalImplicit)], isGenerator := false, isCoroutine := false, more := [] }
/-- what the written part says of the class cn, at C, and of its __init__, at fI -/
structure ValTxt (P : Program) (K : Frag) (mg : Str → Option Value) (cn : Str) (C fI : Addr) : Prop where
  gC : mg cn = some (.ref C)
  cls : ∃ nm q N bs bm sn sub ab col dd k0 k1 k2 k3 k5, K.lookup C = some (excClassObj nm q C N bs bm true sn sub ab col dd k0 k1 k2 k3 k5 "ValueError.__new__") ∧ refsVE bm = true ∧ alongIn K "__init__" bm = some (some (.builtin "ValueError.__init__"))
  sa : findIn K (.ref C) "__setattr__" = some (some (.builtin "object.__setattr__"))
  ga : findIn K (.ref C) "__getattribute__" = some (some (.builtin "BaseException.__getattribute__"))
  gg : findIn K (.ref C) "__getattr__" = some none
  noN : findIn K (.ref C) "value" = some none
  iC : findIn K (.ref C) "__init__" = some (some (.ref fI))
  tC : typeIn K (.ref fI) = some (.type "function")
  kC : keepIn K (.ref C) = true
  exC : subIn K (.ref C) (.type "BaseException") = some true
  veC : subIn K (.ref C) (.type "ValueError") = some true
  tyC : typeIn K (.ref C) = some (.type "type")
  hdC : hasDictIn K C = true
  te : exmOne K (.ref C) (.ref C) = some true
  mroC : mroIn K C (.ref C) = some true
  opq : nsIn K cStatics "thirdparty.any" = some none
  sup : nsIn K mainGlobals "super" = some none
  top : (P.main.scope.names.lookup ("super" : Str)).isSome = false
  fn : ∃ (oc : Value) (od : Option Addr) (dt : Addr) (doc pm : Value) (an : Option Addr) (cda cc : Addr) (ct : Value) (osl : Array (Option Value)) (qn : Str) (p1 p2 p3 q1 q2 q3 q4 q5 q6 q7 q8 q9 : Pos) (n : Nat),
    K.lookup fI = some ⟨oc, od, .func (ksFn "__init__" qn (iA p1 p2 p3 n) (iB q1 q2 q3 q4 q5 q6 q7 q8 q9) iS (.ref dt) .none doc pm an (.ref cda) ct cc), osl⟩ ∧ codeIn K (.ref cda) qn = true ∧
    (∃ ccl cdd vs ccs file tf, K.lookup cda = some ⟨ccl, cdd, .fields vs, ccs⟩ ∧ vs[2]? = some (.str file tf) ∧ ((P.main.file : Str) == file) = true) ∧
    (∃ cl cld csl, K.lookup cc = some ⟨cl, cld, .cell (some (.ref C)), csl⟩) ∧ (∃ od n, K.lookup dt = some od ∧ od.data = .seq #[.none] n) ∧ (q3.endLine == q4.line) = true
theorem methodCall_line {o : Expr} {name : Str} {apos pos : Pos} {env : Env} {ov : Value} (hline : (apos.endLine == pos.line) = true) :
    methodCall o name apos pos env ov 0 (backTo pos (starEach [] env)) [] = (do
      let (f, first) ← holding [ov] (getMethod ov name (do return (← importBound o env).getD true))
      callWith pos f first (backTo pos (starEach [] env)) []) := by
  have hpos : methodCallPos true o env apos pos = pure pos := by unfold methodCallPos; simp [hline]
  have hform : methodCallForm 0 (backTo pos (starEach [] env)) [] = true := rfl
  unfold methodCall
  rw [hform, hpos]
  unfold calleeOf
  rfl
theorem eval_super {o : Expr} {name : Str} {apos pos : Pos} {env : Env} (hline : (apos.endLine == pos.line) = true) :
    eval (.Call (.Attribute o name apos) [] [] pos) env = (do
      let ov ← attributeBase o name env (eval o env)
      standAt apos.atName
      let (f, first) ← holding [ov] (getMethod ov name (do return (← importBound o env).getD true))
      callWith pos f first (backTo pos (starEach [] env)) []) := by
  have e : eval (.Call (.Attribute o name apos) [] [] pos) env = (do
      let ov ← attributeBase o name env (eval o env)
      standAt apos.atName
      methodCall o name apos pos env ov 0 (backTo pos (starEach [] env)) []) := by rfl
  rw [e]
  have : (fun ov => methodCall o name apos pos env ov 0 (backTo pos (starEach [] env)) []) = fun ov => (do
      let (f, first) ← holding [ov] (getMethod ov name (do return (← importBound o env).getD true))
      callWith pos f first (backTo pos (starEach [] env)) []) := funext fun ov => methodCall_line hline
  have h2 : (fun ov => do standAt apos.atName; methodCall o name apos pos env ov 0 (backTo pos (starEach [] env)) []) = fun ov => (do
      standAt apos.atName
      let (f, first) ← holding [ov] (getMethod ov name (do return (← importBound o env).getD true))
      callWith pos f first (backTo pos (starEach [] env)) []) := funext fun ov => by rw [methodCall_line hline]
  exact congrArg (fun k => attributeBase o name env (eval o env) >>= k) h2
/-- what __init__ leaves of a fresh exception at x -/
structure InitEnd (h h' : Heap) (x C dx t1 : Addr) (v : Value) : Prop where
  keep : ∀ b o, b ≠ x → h.get? b = some o → h'.get? b = some o
  obj : h'.get? x = some { cls := .ref C, dict := some dx, data := .fields #[.ref t1, .none, .none, .none, .bool false, .none] }
  dbig : h.objs.size ≤ dx
  dne : dx ≠ x
  ns : h'.Ns1 dx (fun y => if y = "value" then some v else none)
/-- a made one -/
structure OwnMade (h h' : Heap) (e C d : Addr) (v : Value) : Prop where
  keep : ∀ b o, h.get? b = some o → h'.get? b = some o
  new : h.objs.size ≤ e
  obj : ∃ oe vs, h'.get? e = some oe ∧ oe.cls = .ref C ∧ oe.dict = some d ∧ oe.data = .fields vs ∧ vs[1]? = some .none
  dbig : h.objs.size ≤ d
  dne : d ≠ e
  ns : h'.Ns1 d (fun y => if y = "value" then some v else none)
theorem ldC {M : Model} {s : Shared} {env : Env} {m : Str → Option Value} {x : Str} {pos : Pos} {v : Value} {Q : Value → Shared → Prop} {A : Around} {E : Value → Shared → Prop} (hn : s.heap.Ns env.locals m) (hv : m x = some v) (h : Q v s)
    (hk : env.scope.kind = .function := by rfl) (hl : env.kindOf x = some .local := by rfl) (hd : (x == ("__debug__" : Str)) = false := by decide) :
    wpAny M A (eval (.Name x pos) env) Q E s := wpAny_Name (wpAny_loadName_local hk hl hn hv h) hd
theorem drop_own (C : Addr) (l : List Value) : ((Value.ref C :: l).dropWhile (· != .ref C)).drop 1 = l := by
  simp [List.dropWhile_cons]
section
variable {prog : Program} {w : World} {A : Around} {E : Value → Shared → Prop} {h : Heap} {g : Array GenState} {d : Drawn} {t : Nat} {os : OsState}
variable {nm q : Str} {C N : Addr} {bs bm : List Value} {hdct : Bool} {sn : List Str} {sub : List Value} {ab : Bool} {col : Option Bool} {dd : Option Addr} {k0 k1 k2 k3 k5 : Option Value}
/-- the bound ValueError.__init__, called with nothing -/
theorem call_mw {u e t0 : Addr} {rest : List Value} {Q : Value → Shared → Prop}
    (hC : h.get? C = some (excClassObj nm q C N bs bm hdct sn sub ab col dd k0 k1 k2 k3 k5 "ValueError.__new__")) (he : h.get? e = some (HandSPX.excO C t0)) (hu : h.get? u = some (kxs_mw "ValueError.__init__" e)) (hrest : rest.length ≤ sizeLine)
    (hq : ∀ h' t1, (∀ b o, b ≠ e → h.get? b = some o → h'.get? b = some o) → h'.get? e = some (HandSPX.excO C t1) → Q .none ⟨h', g, d, t, os⟩) :
    wpAny (model prog w) A (call (.ref u) rest) Q E ⟨h, g, d, t, os⟩ := by
  refine wpAny_call (codeAny_of_tree ?_)
  show wpAny _ A.in1 (callAny (.ref u) ⟨rest, []⟩) _ _ _
  simp only [callAny]
  refine wpAny_bind (wpAny_load hu ?_)
  simp only [kxs_mw, show (Value.type "method-wrapper" == Value.type "method" || Value.type "method-wrapper" == Value.type "builtin_function_or_method" || Value.type "method-wrapper" == Value.type "method-wrapper") = true by decide, if_true]
  refine W.KFB.if_so (by decide) ?_
  refine wpAny_bind (check_bound_init F.excBase_ValueError.toExcCallFacts hC he rfl ?_)
  refine wpAny_bind (wpAny_pure (wpAny_pure ?_))
  refine ⟨Code.quiet_builtin _ (by decide +kernel), codeAny_builtin F.excBase_ValueError.initEntry ?_⟩
  rw [Around.under_plainId F.excBase_ValueError.init.plain _]
  wp_walk
  refine hq _ h.objs.size (fun b o hb ho => ?_) ?_
  · rw [Heap.get?_update_other _ _ (Ne.symm hb)]
    exact Heap.get?_push_of_some _ ho
  · rw [Heap.get?_update_self _ (Heap.get?_push_of_some _ he) rfl]
    rfl
end
section
variable {prog : Program} {w : World} {A : Around} {E : Value → Shared → Prop} {R : Result → Shared → Prop} {s : Shared} {K : Frag} {mg : Str → Option Value} {cn : Str} {C fI : Addr}
theorem val_init (T : ValTxt prog K mg cn C fI) {x t0 : Addr} {v : Value} {mg' mb : Str → Option Value} (X : K.In s.heap) (hG : s.heap.Ns mainGlobals mg') (hB : s.heap.Ns builtinsNs mb) (hBs : mb "super" = some (.type "super")) (hlim : s.heap.NoLimit) (hx : s.heap.get? x = some (excO C t0)) (hnx : K.lookup x = none) (hroom : A.depth < recursionLimit)
    (hq : ∀ h' tk dx t1, InitEnd s.heap h' x C dx t1 v → R (.ok (.ret .none)) { s with heap := h', toks := tk }) {args : Args} (hm : args = ⟨[.ref x, v], []⟩ ∨ args = ⟨[.ref x], [(("value" : Str), v)]⟩ ∨ (args = ⟨[.ref x], []⟩ ∧ v = .none)) :
    codeAny (model prog w) A (.call (.ref fI) args) R s := by
  obtain ⟨oc, od, dt, doc, pm, an, cda, cc, ct, osl, qn, p1, p2, p3, q1, q2, q3, q4, q5, q6, q7, q8, q9, n, ho, hcd, ⟨ccl, cdd, vs, ccs, file, tf, hcode, hvs, hfile⟩, ⟨cl, cld, csl, hcell⟩, ⟨odd, nd, hdt, hds⟩, hline⟩ := T.fn
  obtain ⟨nm, q, N, bs, bm, sn, sub, ab, col, dd, k0, k1, k2, k3, k5, hC, hbm, hal⟩ := T.cls
  have hcl : clsIn K C = some { name := nm, bases := bs, mro := .ref C :: bm, ns := N, qualname := q, hasDict := true, slotNames := sn, subclasses := sub, abstract := ab, collection := col, hasDel := false } := by unfold clsIn; rw [hC] <;> rfl
  have hbd : BindsTo s (ksFn "__init__" qn (iA p1 p2 p3 n) (iB q1 q2 q3 q4 q5 q6 q7 q8 q9) iS (.ref dt) .none doc pm an (.ref cda) ct cc) args [("self", .ref x), ("value", v)] := by
    rcases hm with rfl | rfl | ⟨rfl, rfl⟩ <;> exact BindsTo.of_defaults (T := dt) rfl (X _ _ hdt) hds rfl rfl
  refine ks_codeAny_call_defAt (fd := ksFn "__init__" qn (iA p1 p2 p3 n) (iB q1 q2 q3 q4 q5 q6 q7 q8 q9) iS (.ref dt) .none doc pm an (.ref cda) ct cc) (body := iB q1 q2 q3 q4 q5 q6 q7 q8 q9) (binds := [("self", .ref x), ("value", v)])
    hroom (X _ _ ho) rfl hlim (codeRec_of X hcd) rfl hbd (show ∀ y ∈ iS.names, y.2 ≠ .cell by decide) (by first | decide | (intro y hy; simp only [List.mem_cons, List.not_mem_nil, or_false] at hy; rcases hy with rfl | rfl <;> rfl)) (fun h₁ hn k => ?_)
  have hs0 : s.heap.objs.size ≠ x := Nat.ne_of_gt (Heap.lt_size hx)
  have hxC : x ≠ C := fun z => by
    rw [z, X _ _ hC] at hx
    cases hx
  have X₁ : K.In h₁ := X.keeps k
  have hx₁ := k _ _ hx
  have hG₁ := hG.keeps k
  have hB₁ := hB.keeps k
  show _root_.PySem.wpAt _ _ (.func _ (ksEnv qn iS s.heap.objs.size fI (.ref cda) cc)) (execs _ (ksEnv qn iS s.heap.objs.size fI (.ref cda) cc)) _ _ _
  refine ks_wpAt_execs_cons (ks_wpAt_Expr_any (ks_wpAt_MethodCall ?_ (eval_super hline)))
  refine ks_wpAt_super_base (f := fI) (cc := cda) rfl rfl (by decide) rfl (X₁ _ _ ho) rfl rfl rfl (X₁ _ _ hcode) rfl hvs hfile T.top ?_
  refine ks_loadName_global rfl rfl (loadGlobal_builtin hG₁ (mg_none_of X hG T.sup) hB₁ hBs ⟨rfl, ?_⟩)
  refine wpAny_loadName_free rfl rfl rfl ⟨_, X₁ _ _ hcell, rfl⟩ ?_
  refine wpAny_loadName_local (v := .ref x) rfl rfl hn (by first | rfl | with_unfolding_all rfl | kernel_rfl) ?_
  refine ks_wpAny_isType_cls (X₁ _ _ hC) rfl ⟨rfl, ?_⟩
  refine ks_wpAny_call_super (X₁ _ _ hC) rfl hx₁ rfl (fun c e => by cases e) (looks_mroIn X₁ T.mroC) (fun h₂ e2 k2 => ?_)
  have X₂ : K.In h₂ := X₁.keeps k2
  have hx₂ := k2 _ _ hx₁
  have hn₂ := hn.keeps k2
  have hI : Looks (model prog w) h₂ (isInstance (.ref x) (.type "ValueError")) true := (show InstAt h₂ x (excO C t0) C none from ⟨hx₂, rfl, rfl, trivial⟩).type.andThen (looks_subIn X₂ T.veC)
  refine kxs_getMethod kxs_ValueError e2 (looks_opaque X₂ T.opq) (l₀ := .ref C :: bm) ?_ (drop_own C bm) X₂ hal hI hxC (by decide) ?_
  · exact fun A Q E s k q => wpAny_bind ((looks_clsIn X₂ hcl) A _ E s k (wpAny_pure q))
  have k3 : ∀ b o, h₂.get? b = some o → (h₂.push (kxs_mw "ValueError.__init__" x)).get? b = some o := fun b o e => Heap.get?_push_of_some _ e
  have hu : (h₂.push (kxs_mw "ValueError.__init__" x)).get? h₂.objs.size = some (kxs_mw "ValueError.__init__" x) := Heap.get?_push_at rfl rfl
  refine kxs_callWith (i := "ValueError.__init__") (x := x) rfl (evalArgs_empty ⟨hu, ?_⟩)
  refine call_mw (C := C) (e := x) (t0 := t0) ((X₂.keeps k3) _ _ hC) (k3 _ _ hx₂) hu (Nat.zero_le _) (fun h₄ t1 k4 hx₄ => ?_)
  have kk : ∀ b o, b ≠ x → s.heap.get? b = some o → h₄.get? b = some o := fun b o hb e => k4 b o hb (k3 b o (k2 b o (k b o e)))
  have X₄ : K.In h₄ := fun a o e => kk a o (fun z => by rw [z, hnx] at e; cases e) (X a o e)
  have hxL : s.heap.objs.size ≠ x := Nat.ne_of_gt (Heap.lt_size hx)
  have hn₄ : h₄.Ns s.heap.objs.size _ := (hn₂.keeps k3).at fun o e => k4 _ _ hxL e
  refine ks_wpAt_execs_cons (wpAt_of_wpAny ?_)
  refine plainObj_wpAny_Assign_Attribute ?_
  refine ldC (v := v) hn₄ (by first | rfl | with_unfolding_all rfl | kernel_rfl) (ldC (v := .ref x) hn₄ (by first | rfl | with_unfolding_all rfl | kernel_rfl) ?_)
  refine set_plain X₄ (ox := excO C t1) (od := none) ⟨hx₄, rfl, rfl, trivial⟩ T.sa ?_
  refine exc_osa X₄ hx₄ hcl (show refsVE (.ref C :: bm) = true from hbm) rfl T.noN (fun h₅ tk₅ dx k₅ dn dne hx₅ hn₅ => ?_)
  have z1 : s.heap.objs.size < h₄.objs.size := hn₄.lt
  show _root_.PySem.wpAt _ _ _ (execs [] _) _ _ _
  refine wpAt_of_wpAny (wpAny_execs_nil ?_)
  exact hq h₅ tk₅ dx t1 ⟨fun b o hb e => k₅ b o hb (kk b o hb e), hx₅, Nat.le_of_lt (Nat.lt_of_lt_of_le z1 dn), dne, hn₅⟩
theorem one_size (v : Value) : [v].length ≤ sizeLine := by
  rw [sizeLine_eq]
  exact (by decide : 1 ≤ 16777216)
theorem val_made (T : ValTxt prog K mg cn C fI) {v : Value} {mg' mb : Str → Option Value} (X : K.In s.heap) (hG : s.heap.Ns mainGlobals mg') (hB : s.heap.Ns builtinsNs mb) (hBs : mb "super" = some (.type "super")) (hlim : s.heap.NoLimit) (hroom : A.depth + 1 < recursionLimit)
    (hq : ∀ h' tk e d, OwnMade s.heap h' e C d v → R (.ok (.ret (.ref e))) { s with heap := h', toks := tk }) :
    codeAny (model prog w) A (.call (.ref C) ⟨[v], []⟩) R s := by
  obtain ⟨nm, q, N, bs, bm, sn, sub, ab, col, dd, k0, k1, k2, k3, k5, hC, hbm, hal⟩ := T.cls
  obtain ⟨hp, g, dr, tk, os⟩ := s
  have k : ∀ b o, hp.get? b = some o → ((hp.push (kdv_tup [v])).push (excO C hp.objs.size)).get? b = some o := fun b o e => Heap.get?_push_of_some _ (Heap.get?_push_of_some _ e)
  have hget : ((hp.push (kdv_tup [v])).push (excO C hp.objs.size)).get? (hp.objs.size + 1) = some (excO C hp.objs.size) := by heap_get
  have hnx : K.lookup (hp.objs.size + 1) = none := by
    cases e : K.lookup (hp.objs.size + 1) with
    | none => rfl
    | some o =>
      have z : hp.get? (hp.objs.size + 1) = some o := X _ _ e
      exact absurd (Nat.lt_of_succ_lt (Heap.lt_size z)) (Nat.lt_irrefl _)
  refine call_own F.excBase_ValueError (fun X => refsVE_contains X bm hbm) (X _ _ hC) (looks_findIn X T.iC) (fun self => bind_fn X self T.tC) (one_size v) ?_
  refine val_init (s := ⟨(hp.push (kdv_tup [v])).push (excO C hp.objs.size), g, dr, tk, os⟩) T (X.keeps k) (hG.keeps k) (hB.keeps k) hBs (hlim.keeps k) hget hnx ?_ (fun h' tk' dx t1 ⟨k', hx, dn, dne, hns⟩ => ?_) (.inl rfl)
  · show A.depth + 1 < recursionLimit
    exact hroom
  · have old : ∀ b o, hp.get? b = some o → h'.get? b = some o := fun b o e => k' b o (Nat.ne_of_lt (Nat.lt_succ_of_lt (Heap.lt_size e))) (k b o e)
    have z : hp.objs.size + 1 + 1 ≤ dx := by
      first
        | (simpa only [Heap.size_push] using dn)
        | exact dn
        | (have q := dn; rw [Heap.size_push, Heap.size_push] at q; exact q)
    exact ⟨rfl, hq h' tk' (hp.objs.size + 1) dx ⟨old, Nat.le_succ _, ⟨_, _, hx, rfl, rfl, rfl, rfl⟩, Nat.le_trans (Nat.le_trans (Nat.le_succ _) (Nat.le_succ _)) z, dne, hns⟩⟩
end
end Kex
end PySem
namespace L2
open PySem PySem.Spec PyProof.Rows
theorem relO_val {v : V} {v' : Value} (r : RelV v v') (f : Str) : RelO (List.lookup f [(("value" : Str), v)]) (if f = "value" then some v' else none) := by
  by_cases hw : f = "value"
  · subst hw
    rw [if_pos rfl]
    have q : List.lookup ("value" : Str) [(("value" : Str), v)] = some v := by simp [List.lookup]
    rw [q]
    exact r
  · rw [if_neg hw]
    have qw : (f == ("value" : Str)) = false := by simpa using hw
    have q2 : List.lookup f [(("value" : Str), v)] = none := by simp [List.lookup, qw]
    rw [q2]
    trivial
section
variable {X : Cx} {cn : Str} {C fI : Addr}
/-- Cn(e) -/
def tMkV (C : Addr) (ta : TA) : St → Hp → XK → Prop := fun σ H Q => ta σ H fun vs H1 => ∃ v, vs = [v] ∧ ∀ d, H1 d = none → Q (.ref C) (some d) (upd H1 d (.xd [(("value" : Str), v)]))
theorem pmk_val {a : Expr} {ta : TA} {p pos : Pos} {k : Nat} (T : PySem.Kex.ValTxt X.prog X.K X.mg cn C fI) (hr : Room k X.A) (ha : PA X [a] ta) (hg : Gl X cn)
    (hd : (cn == ("__debug__" : Str)) = false) (he : starEach (a :: []) X.env = (false, eval a X.env) :: starEach [] X.env := by rfl) (hpl : (backTo pos (starEach [] X.env)).any (·.1) = false := by rfl) :
    PMk X (.Call (.Name cn p) [a] [] pos) (tMkV C ta) := by
  intro pins s σ H Q I h
  refine wpAny_Call_Name_kw (ld_glob I hg T.gC ?_ hd)
  refine PySem.W.callWith_K (h₀ := X.base) I.ok.mod.kin T.kC (thn (ha.run pos pins s σ H _ I h) fun us s1 hh => ?_) he hpl
  obtain ⟨vs, H1, I1, r1, v, ev, q1⟩ := hh
  subst ev
  refine ⟨I1.kIn, ?_⟩
  cases r1 with
  | cons rv rn =>
    rename_i v' us'
    cases rn
    show wpAny _ _ (call (.ref C) [v']) _ _ _
    have hlim := I1.nolimit
    obtain ⟨mb, hb1, hb2⟩ := I1.mod.blt
    have hG := I1.mod.glob.keeps I1.bk
    have hB := hb1.keeps I1.bk
    obtain ⟨hp, g, dr, tk, os⟩ := s1
    refine wpAny_call (PySem.Kex.val_made T I1.kIn hG hB ((hb2 _ (by decide)).trans (by rfl)) hlim (by have := hr.dp; omega) fun h' tk' e d M => ?_)
    show MkP X pins σ Q (.ref e) ⟨h', g, dr, tk', os⟩
    obtain ⟨oe, fv, hoe, hc, hd, hdat, h1⟩ := M.obj
    have hns := M.ns
    obtain ⟨G', g1, g2⟩ := restrict h' fun b => decide (b ≠ e)
    have gk : ∀ b, b ≠ e → G'.get? b = h'.get? b := fun b hb => g1 b (decide_eq_true hb)
    have ge : G'.get? e = none := g2 e (by simp)
    have old : ∀ b o, hp.get? b = some o → G'.get? b = some o := fun b o q => (gk b (Nat.ne_of_lt (Nat.lt_of_lt_of_le (Heap.lt_size q) M.new))).trans (M.keep b o q)
    have ob : ObjOk X.prog X.w (upd H1 d (.xd [(("value" : Str), v)])) G' d (.xd [(("value" : Str), v)]) :=
      ⟨_, hns.at (fun o q => (gk d M.dne).trans q), fun f => relO_val rv f⟩
    have J : Inv X pins σ (upd H1 d (.xd [(("value" : Str), v)])) ⟨G', g, dr, tk', os⟩ := I1.laid (t' := tk') old M.dbig ob
    refine ⟨e, oe, fv, ⟨G', g, dr, tk', os⟩, _, .ref C, some d, rfl, J, fun b o q => ?_, ge, hoe, ⟨hc, hd⟩, hdat, h1, ?_, rfl, I1.bare, raises_own T.exC T.tyC, q1 d (I1.hok.fresh M.dbig)⟩
    · by_cases hb : b = e
      · have q' : G'.get? b = some o := q
        rw [hb, ge] at q'; cases q'
      · exact (gk b hb).symm.trans q
    · rw [upd_ne (Ne.symm M.dne)]
      exact I1.hok.fresh M.new
/-- raise Cn(e) -/
def tRaiseV (C : Addr) (W : WX) (ta : TA) : TS := fun _ σ H => tMkV C ta σ H fun cls d H' => W cls d σ H'
theorem ps_raiseV {a : Expr} {ta : TA} {W : WX} {p pos pos2 : Pos} {k : Nat} (hc : X.calm = true) (T : PySem.Kex.ValTxt X.prog X.K X.mg cn C fI) (hr : Room k X.A) (tk : Takes X W) (ha : PA X [a] ta) (hg : Gl X cn)
    (hd : (cn == ("__debug__" : Str)) = false) (he : starEach (a :: []) X.env = (false, eval a X.env) :: starEach [] X.env := by rfl) (hpl : (backTo pos (starEach [] X.env)).any (·.1) = false := by rfl) :
    PS X (.Raise (some (.Call (.Name cn p) [a] [] pos)) none pos2) (tRaiseV C W ta) := ps_raise hc tk (pmk_val T hr ha hg hd he hpl)
/-- e.value, e the exception that the suite holds (at a; its class cls, its dict d) -/
def tByV (C : Addr) (a : Addr) (cls : Value) (d : Option Addr) (te : TE) : TE := fun σ H Q => te σ H fun x H1 => x = .ref a ∧ cls = .ref C ∧ ∃ (dd : Addr) (v : V), d = some dd ∧ H1 dd = some (.xd [(("value" : Str), v)]) ∧ Q v H1
theorem pe_byV {a : Addr} {oe : Obj} {cls : Value} {d : Option Addr} {pn : List (Addr × Obj)} {e : Expr} {te : TE} {pos : Pos} (T : PySem.Kex.ValTxt X.prog X.K X.mg cn C fI) (hz : Zc cls d oe) (hf : ∃ vs, oe.data = .fields vs) (he : PE (X.suite a ((a, oe) :: pn)) e te)
    (hb : attributeBase e "value" X.env (eval e X.env) = eval e X.env := by rfl) :
    PE (X.suite a ((a, oe) :: pn)) (.Attribute e "value" pos) (tByV C a cls d te) := by
  refine ⟨fun pins s σ H Q I h => ?_⟩
  refine attr_of hb (thn (he.run pins s σ H _ I h) fun u s1 hh => ?_)
  obtain ⟨x, H1, I1, rx, ex, ec, dd, v, ed, ea, q⟩ := hh
  subst ex
  obtain rfl : u = Value.ref a := rx
  subst ec
  subst ed
  obtain ⟨ha, _⟩ := I1.pin (a, oe) (List.mem_append_left _ List.mem_cons_self)
  obtain ⟨vs, hd⟩ := hf
  have hx : ObjOk X.prog X.w H1 s1.heap dd (.xd [(("value" : Str), v)]) := I1.hok dd _ ea
  obtain ⟨mA, hns, hr⟩ := hx
  obtain ⟨od, ho, hl⟩ := lookIn_ns hns
  have l : List.lookup ("value" : Str) [(("value" : Str), v)] = some v := by simp [List.lookup]
  obtain ⟨u, hu, ru⟩ := RelO.some_of (v := v) (o := mA "value") (by rw [← l]; exact hr "value")
  have J : PySem.W.InstAt s1.heap a oe C (some od) := ⟨ha, hz.1, by unfold PySem.W.notCls; rw [hd] <;> rfl, by rw [hz.2]; exact ho⟩
  exact HandSPX.exc_get I1.kIn J T.ga T.gg T.exC (PySem.W.findObj_own T.hdC T.noN rfl (by rw [hl, hu])) (handed_of ru) ⟨v, H1, I1.tok _, ru, q⟩
end
end L2
/-! Kh: the top's facts by names, with own errors: a small head. -/
namespace Kh
open PySem PySem.Spec PyProof.Rows L2 He
/-- an own error's class: its name and the statement that makes it -/
structure ErrD where
  cn : Str
  st : Stmt
def initOf (st : Stmt) : Stmt := match st with
  | .ClassDef _ _ _ b _ _ _ _ _ _ _ => b.getD 0 (.Pass ⟨0, 0, 0, 0⟩)
  | s => s
abbrev FnI : Type := Option (Str × Str × Arguments × FuncBody × Scope × Addr × Addr)
def iAd (K : PySem.W.Frag) (cn : Str) : Addr := ma K (ga K cn) "__init__"
def fnI (K : PySem.W.Frag) (cn : Str) : FnI := match K.lookup (iAd K cn) with
  | some ⟨_, _, .func fd, _⟩ => some (fd.name, fd.qualname, fd.params, fd.body, fd.scope, fd.globals, fd.builtins)
  | _ => none
def ErrD.val (d : ErrD) : FnI := some ("__init__", d.cn ++ ".__init__", defArgs (initOf d.st), .stmts (defBody (initOf d.st)), defScope (initOf d.st), mainGlobals, builtinsNs)
def clsB (K : PySem.W.Frag) (C : Addr) : Bool := match K.lookup C with
  | some ⟨.type t, _, .cls cd, sl⟩ => (match cd.mro, sl.toList with
    | .ref C' :: bm, [_, _, _, _, some (.builtin n), _] => decide (t = "type") && (decide (C' = C) && (decide (n = "ValueError.__new__") && (!cd.hasDel && (cd.hasDict && (HandSPX.refsVE bm && eqO (PySem.W.alongIn K "__init__" bm) (some (some (.builtin "ValueError.__init__"))))))))
    | _, _ => false)
  | _ => false
def codeB (K : PySem.W.Frag) (file : Str) (c : Addr) : Bool := match K.lookup c with
  | some ⟨_, _, .fields vs, _⟩ => (match (vs[2]? : Option Value) with
    | some (Value.str fl _) => decide (file = fl)
    | _ => false)
  | _ => false
def iniM (dv kv cd : Value) (cl : List (Str × Addr)) (p : Addr → Addr → Str → Addr → Bool) : Bool := match dv, kv, cd, cl with
  | .ref dt, .none, .ref cda, [(cx, cc)] => p dt cda cx cc
  | _, _, _, _ => false
theorem iniM_ok {dv kv cd : Value} {cl : List (Str × Addr)} {p : Addr → Addr → Str → Addr → Bool} (h : iniM dv kv cd cl p = true) : ∃ dt cda cx cc, dv = .ref dt ∧ kv = .none ∧ cd = .ref cda ∧ cl = [(cx, cc)] ∧ p dt cda cx cc = true := by
  unfold iniM at h
  split at h
  · exact ⟨_, _, _, _, rfl, rfl, rfl, rfl, h⟩
  · cases h
def cellB (K : PySem.W.Frag) (C cc : Addr) : Bool := match K.lookup cc with
  | some ⟨_, _, .cell (some (.ref C')), _⟩ => decide (C' = C)
  | _ => false
def nonB (K : PySem.W.Frag) (dt : Addr) : Bool := match K.lookup dt with
  | some ⟨_, _, .seq its _, _⟩ => decide (its = #[.none])
  | _ => false
def iniB (K : PySem.W.Frag) (file : Str) (C f : Addr) : Bool := match K.lookup f with
  | some ⟨_, _, .func fd, _⟩ => iniM fd.defaults fd.kwdefaults fd.code fd.closure fun dt cda cx cc => decide (cx = "__class__") && (PySem.W.codeIn K (.ref cda) fd.qualname && (codeB K file cda && (cellB K C cc && nonB K dt)))
  | _ => false
/-- what isinstance asks of an own error's class -/
def isiB (K : PySem.W.Frag) (C : Addr) : Bool := eqO (PySem.W.findIn K (.ref C) "__getattribute__") (some (some (.builtin "BaseException.__getattribute__"))) && (eqO (PySem.W.findIn K (.ref C) "__getattr__") (some none) && (decide (PySem.W.subIn K (.ref C) (.type "BaseException") = some true) && (PySem.W.hasDictIn K C &&
  (eqO (PySem.W.findIn K (.ref C) "__class__") (some (some (.builtin "object.__class__"))) && (eqO (PySem.W.specialIn K (.builtin "object.__class__") "__get__") (some (some (.builtin "getset_descriptor.__get__"))) && (decide (PySem.W.takesIn K (.builtin "object.__class__") = some true) && decide (PySem.W.mroIn K C (.type "object") = some true)))))))
theorem isiB_ok {K : PySem.W.Frag} {C : Addr} (h : isiB K C = true) : ExcC K C := by
  obtain ⟨h1, h⟩ := ba h
  obtain ⟨h2, h⟩ := ba h
  obtain ⟨h3, h⟩ := ba h
  obtain ⟨h4, h⟩ := ba h
  obtain ⟨h5, h⟩ := ba h
  obtain ⟨h6, h⟩ := ba h
  obtain ⟨h7, h8⟩ := ba h
  exact ⟨eqO_ok h1, eqO_ok h2, of_decide_eq_true h3, h4, eqO_ok h5, eqO_ok h6, of_decide_eq_true h7, of_decide_eq_true h8⟩
def errB (K : PySem.W.Frag) (file cn : Str) : Bool := eqO (PySem.W.nsIn K mainGlobals cn) (some (some (.ref (ga K cn)))) && (clsB K (ga K cn) && (eqO (PySem.W.findIn K (.ref (ga K cn)) "__setattr__") (some (some (.builtin "object.__setattr__"))) && (eqO (PySem.W.findIn K (.ref (ga K cn)) "value") (some none) &&
  (eqO (PySem.W.findIn K (.ref (ga K cn)) "__init__") (some (some (.ref (iAd K cn)))) && (decide (PySem.W.typeIn K (.ref (iAd K cn)) = some (.type "function")) && (PySem.W.keepIn K (.ref (ga K cn)) && (decide (PySem.W.subIn K (.ref (ga K cn)) (.type "ValueError") = some true) &&
  (decide (PySem.W.typeIn K (.ref (ga K cn)) = some (.type "type")) && (decide (PySem.W.mroIn K (ga K cn) (.ref (ga K cn)) = some true) && (decide (PySem.W.exmOne K (.ref (ga K cn)) (.ref (ga K cn)) = some true) && (iniB K file (ga K cn) (iAd K cn) && isiB K (ga K cn))))))))))))
theorem clsB_ok {K : PySem.W.Frag} {C : Addr} (h : clsB K C = true) : ∃ nm q N bs bm sn sub ab col dd k0 k1 k2 k3 k5, K.lookup C = some (excClassObj nm q C N bs bm true sn sub ab col dd k0 k1 k2 k3 k5 "ValueError.__new__") ∧ HandSPX.refsVE bm = true ∧ PySem.W.alongIn K "__init__" bm = some (some (.builtin "ValueError.__init__")) := by
  unfold clsB at h
  split at h
  · rename_i t dd cd sl ho
    split at h
    · rename_i C' bm k0 k1 k2 k3 n k5 hm hs
      obtain ⟨h1, h⟩ := ba h
      obtain ⟨h2, h⟩ := ba h
      obtain ⟨h3, h⟩ := ba h
      obtain ⟨h4, h⟩ := ba h
      obtain ⟨h5, h⟩ := ba h
      obtain ⟨h6, h7⟩ := ba h
      have h1 := of_decide_eq_true h1
      have h2 := of_decide_eq_true h2
      have h3 := of_decide_eq_true h3
      subst h1 h2 h3
      obtain ⟨nm, bs, mro, ns, qn, hd, sn, sub, ab, col, del⟩ := cd
      dsimp only at hm h4 h5
      rw [Bool.not_eq_true'] at h4
      subst hm h4 h5
      have hsl : sl = #[k0, k1, k2, k3, some (.builtin "ValueError.__new__"), k5] := by
        obtain ⟨l⟩ := sl
        simp only at hs
        rw [hs]
      subst hsl
      exact ⟨nm, qn, ns, bs, bm, sn, sub, ab, col, dd, k0, k1, k2, k3, k5, ho, h6, eqO_ok h7⟩
    · cases h
  · cases h
theorem codeB_ok {K : PySem.W.Frag} {file : Str} {c : Addr} (h : codeB K file c = true) : ∃ ccl cdd vs ccs tf, K.lookup c = some ⟨ccl, cdd, .fields vs, ccs⟩ ∧ vs[2]? = some (.str file tf) := by
  unfold codeB at h
  split at h
  · rename_i a b vs sl ho
    split at h
    · rename_i fl tf hv
      have h := of_decide_eq_true h
      subst h
      exact ⟨a, b, vs, sl, tf, ho, hv⟩
    · cases h
  · cases h
theorem cellB_ok {K : PySem.W.Frag} {C cc : Addr} (h : cellB K C cc = true) : ∃ cl cld csl, K.lookup cc = some ⟨cl, cld, .cell (some (.ref C)), csl⟩ := by
  unfold cellB at h
  split at h
  · rename_i a b C' sl ho
    have h := of_decide_eq_true h
    subst h
    exact ⟨a, b, sl, ho⟩
  · cases h
theorem nonB_ok {K : PySem.W.Frag} {dt : Addr} (h : nonB K dt = true) : ∃ od n, K.lookup dt = some od ∧ od.data = .seq #[.none] n := by
  unfold nonB at h
  split at h
  · rename_i a b its n sl ho
    have h := of_decide_eq_true h
    subst h
    exact ⟨_, n, ho, rfl⟩
  · cases h
section
variable {P : Program} {K : PySem.W.Frag} {h : Heap} {mg : Str → Option Value} {d : ErrD} {file : Str}
theorem err_txt (X : K.In h) (G : h.Ns mainGlobals mg) (e : fnI K d.cn = d.val) (c : errB K file d.cn = true) {p1 p2 p3 q1 q2 q3 q4 q5 q6 q7 q8 q9 : Pos} {n : Nat} (hA : defArgs (initOf d.st) = Kex.iA p1 p2 p3 n) (hB : defBody (initOf d.st) = Kex.iB q1 q2 q3 q4 q5 q6 q7 q8 q9) (hS : defScope (initOf d.st) = Kex.iS)
    (ln : (q3.endLine == q4.line) = true) (fl : P.main.file = file) (top : (P.main.scope.names.lookup ("super" : Str)).isSome = false) (sup : PySem.W.nsIn K mainGlobals "super" = some none) (opq : PySem.W.nsIn K cStatics "thirdparty.any" = some none) : Kex.ValTxt P K mg d.cn (ga K d.cn) (iAd K d.cn) := by
  obtain ⟨c1, c⟩ := ba c
  obtain ⟨c2, c⟩ := ba c
  obtain ⟨c3, c⟩ := ba c
  obtain ⟨c4, c⟩ := ba c
  obtain ⟨c5, c⟩ := ba c
  obtain ⟨c6, c⟩ := ba c
  obtain ⟨c7, c⟩ := ba c
  obtain ⟨c8, c⟩ := ba c
  obtain ⟨c9, c⟩ := ba c
  obtain ⟨c10, c⟩ := ba c
  obtain ⟨c11, c⟩ := ba c
  obtain ⟨c12, c13⟩ := ba c
  have I := isiB_ok c13
  refine { gC := PySem.W.mg_of X G (eqO_ok c1), cls := clsB_ok c2, sa := eqO_ok c3, ga := I.hg, gg := I.hk, noN := eqO_ok c4, iC := eqO_ok c5, tC := of_decide_eq_true c6, kC := c7, exC := I.hs, veC := of_decide_eq_true c8, tyC := of_decide_eq_true c9, hdC := I.hd, te := of_decide_eq_true c11, mroC := of_decide_eq_true c10, opq := opq, sup := sup, top := top, fn := ?_ }
  unfold iniB at c12
  unfold fnI at e
  cases q : K.lookup (iAd K d.cn) with
  | none => rw [q] at c12; cases c12
  | some o =>
    obtain ⟨oc, od, dt, osl⟩ := o
    rw [q] at c12 e
    cases dt with
    | func fd =>
      obtain ⟨n1, n2, n3, n4, n5, n6, n7, n8, n9, n10, n11, n12, n13, n14, n15⟩ := fd
      have e2 : (some (n1, n2, n3, n4, n5, n6, n15) : FnI) = d.val := e
      unfold ErrD.val at e2
      simp only [Option.some.injEq, Prod.mk.injEq] at e2
      obtain ⟨e1, e2, e3, e4, e5, e6, e7⟩ := e2
      rw [hA] at e3
      rw [hB] at e4
      rw [hS] at e5
      subst e1 e3 e4 e5 e6 e7
      obtain ⟨dt, cda, cx, cc, h1, h2, h3, h4, k⟩ := iniM_ok c12
      dsimp only at h1 h2 h3 h4 k
      subst h1 h2 h3 h4
      obtain ⟨k1, k⟩ := ba k
      obtain ⟨k2, k⟩ := ba k
      obtain ⟨k3, k⟩ := ba k
      obtain ⟨k4, k5⟩ := ba k
      have k1 := of_decide_eq_true k1
      subst k1
      obtain ⟨ccl, cdd, vs, ccs, tf, lc, lv⟩ := codeB_ok k3
      exact ⟨oc, od, dt, n10, n11, n12, cda, cc, n14, osl, n2, p1, p2, p3, q1, q2, q3, q4, q5, q6, q7, q8, q9, n, rfl, k2, ⟨ccl, cdd, vs, ccs, file, tf, lc, lv, by rw [fl]; exact beq_self_eq_true _⟩, cellB_ok k4, nonB_ok k5, ln⟩
    | _ => cases c12
end
/-! ### the Hook -/
abbrev AlH : Type := AlD × Bool × List FnI
def obsH (file : Str) (fa : List Fa) (fn : List DefD) (es : List ErrD) (ex : PySem.W.Frag → Bool) (K : PySem.W.Frag) : AlH := (obsD fa fn K, ex K && es.all fun d => errB K file d.cn, es.map fun d => fnI K d.cn)
def valH (fn : List DefD) (es : List ErrD) : AlH := (valD fn, true, es.map ErrD.val)
structure SaysH (file : Str) (fa : List Fa) (fn : List DefD) (es : List ErrD) (ex : PySem.W.Frag → Bool) (K : PySem.W.Frag) : Prop where
  d : SaysD fa fn K
  more : ex K = true
  errs : ∀ d ∈ es, errB K file d.cn = true ∧ fnI K d.cn = d.val
theorem map_eq_at {α β : Type} {f g : α → β} : ∀ {l : List α}, l.map f = l.map g → ∀ a ∈ l, f a = g a
  | [], _, a, h => by cases h
  | x :: l, e, a, h => by
    rw [List.map_cons, List.map_cons] at e
    injection e with e1 e2
    rcases List.mem_cons.mp h with rfl | h
    · exact e1
    · exact map_eq_at e2 a h
theorem saysH_of {file : Str} {fa : List Fa} {fn : List DefD} {es : List ErrD} {ex : PySem.W.Frag → Bool} {K : PySem.W.Frag} (e : obsH file fa fn es ex K = valH fn es) : SaysH file fa fn es ex K := by
  have e1 : obsD fa fn K = valD fn := congrArg (fun z : AlH => z.1) e
  have e2 : (ex K && es.all fun d => errB K file d.cn) = true := congrArg (fun z : AlH => z.2.1) e
  have e3 : es.map (fun d => fnI K d.cn) = es.map ErrD.val := congrArg (fun z : AlH => z.2.2) e
  obtain ⟨h1, h2⟩ := ba e2
  exact ⟨e1, h1, fun d hd => ⟨List.all_eq_true.mp h2 d hd, map_eq_at e3 d hd⟩⟩
def asH (g : Addr → Option Obj) (n : Nat) : List Addr := asD g n ++ [cStatics, sysModules]
abbrev frH (g : Addr → Option Obj) (n : Nat) : PySem.W.Frag := frG g (asH g n)
def obH (n : Nat) (file : Str) (fa : List Fa) (fn : List DefD) (es : List ErrD) (ex : PySem.W.Frag → Bool) (g : Addr → Option Obj) : AlH := obsH file fa fn es ex (frH g n)
/-- two looks at the same part of the heap, so that each may be run by itself -/
def hookH (n : Nat) (file : Str) (fa : List Fa) (fn : List DefD) (es : List ErrD) (ex ey : PySem.W.Frag → Bool) : PySem.W.Hook where
  α := AlH × Bool
  obs := fun s => (obH n file fa fn es ex s.heap.get?, ey (frH s.heap.get? n))
  val := fun _ => (valH fn es, true)
  says := fun _ h => ∃ K : PySem.W.Frag, K.In h ∧ SaysH file fa fn es ex K ∧ ey K = true
  of := fun _ _ e => ⟨_, frG_in, saysH_of (congrArg (fun z : AlH × Bool => z.1) e), congrArg (fun z : AlH × Bool => z.2) e⟩
  keeps := fun _ _ _ ⟨K, hK, c⟩ k => ⟨K, PySem.W.Frag.In.keeps hK k, c⟩
theorem obH_eq {n : Nat} {file : Str} {fa : List Fa} {fn : List DefD} {es : List ErrD} {ex ey : PySem.W.Frag → Bool} {g : Addr → Option Obj} {s : Shared} (h : ∀ a, g a = s.heap.get? a) : (obH n file fa fn es ex g, ey (frH g n)) = (hookH n file fa fn es ex ey).obs s := by
  have e : g = s.heap.get? := funext h
  rw [e] <;> rfl
/-- one look -/
def OneRun {α : Type} (r : PySem.W.OpenRow) (q : Program) (ob : PySem.W.SharedT → α) (v : α) (M : Nat) (loose : List Str) (w : World) : Prop :=
  ∀ os : OsState, (HandSHeadRun.endF (HandSHeadRun.stepQ (HandSHeadRun.denQ HandSHeadRun.tabQ) r.prog w) M r.prog w os).map (fun s => (HandSHeadRun.looksF r.prog (PySem.W.boot_heap w.params) s.abs, HandSHeadRun.seenQ q loose (importedModules r.prog.main.body) (fun s => PySem.W.xlAt q [] s && PySem.W.recOk r.toRowW.records s) s.abs, ob s)) = some (true, PySem.W.openGood q loose, v)
/-- a further look -/
def MoreRun {α : Type} (r : PySem.W.OpenRow) (ob : PySem.W.SharedT → α) (v : α) (M : Nat) (w : World) : Prop :=
  ∀ os : OsState, (HandSHeadRun.endF (HandSHeadRun.stepQ (HandSHeadRun.denQ HandSHeadRun.tabQ) r.prog w) M r.prog w os).map ob = some v
theorem run_both {n : Nat} {file : Str} {fa : List Fa} {fn : List DefD} {es : List ErrD} {ex ey : PySem.W.Frag → Bool} {r : PySem.W.OpenRow} {q : Program} {M : Nat} {loose : List Str} {w : World}
    (r1 : OneRun r q (fun s => obH n file fa fn es ex (HandSHeadRun.getT s)) (valH fn es) M loose w) (r2 : MoreRun r (fun s => ey (frH (HandSHeadRun.getT s) n)) true M w) :
    HandSHeadRun.RunEq r q (hookH n file fa fn es ex ey) (fun s => (obH n file fa fn es ex (HandSHeadRun.getT s), ey (frH (HandSHeadRun.getT s) n))) M loose w := fun os => by
  obtain ⟨s, e, h⟩ := Option.map_eq_some_iff.mp (r1 os)
  obtain ⟨s', e', h'⟩ := Option.map_eq_some_iff.mp (r2 os)
  rw [e] at e'
  have es := Option.some.inj e'
  subst es
  rw [e]
  have h1 := congrArg (fun z => z.1) h
  have h2 := congrArg (fun z => z.2.1) h
  have h3 := congrArg (fun z => z.2.2) h
  exact congrArg some (Prod.ext h1 (Prod.ext h2 (Prod.ext h3 h')))
/-- three looks, each run by itself -/
theorem run_three {n : Nat} {file : Str} {fa : List Fa} {fn : List DefD} {es : List ErrD} {ex ey : PySem.W.Frag → Bool} {r : PySem.W.OpenRow} {q : Program} {M : Nat} {loose : List Str} {w : World}
    (r1 : OneRun r q (fun s => obsD fa fn (frH (HandSHeadRun.getT s) n)) (valD fn) M loose w) (r2 : MoreRun r (fun s => (obH n file fa fn es ex (HandSHeadRun.getT s)).2) (valH fn es).2 M w) (r3 : MoreRun r (fun s => ey (frH (HandSHeadRun.getT s) n)) true M w) :
    HandSHeadRun.RunEq r q (hookH n file fa fn es ex ey) (fun s => (obH n file fa fn es ex (HandSHeadRun.getT s), ey (frH (HandSHeadRun.getT s) n))) M loose w := by
  refine run_both (fun os => ?_) r3
  obtain ⟨s, e, h⟩ := Option.map_eq_some_iff.mp (r1 os)
  obtain ⟨s', e', h'⟩ := Option.map_eq_some_iff.mp (r2 os)
  rw [e] at e'
  have es := Option.some.inj e'
  subst es
  rw [e]
  have h1 := congrArg (fun z => z.1) h
  have h2 := congrArg (fun z => z.2.1) h
  have h3 := congrArg (fun z => z.2.2) h
  exact congrArg some (Prod.ext h1 (Prod.ext h2 (Prod.ext h3 h')))
theorem SaysD.fac {fa : List Fa} {fn : List DefD} {K : PySem.W.Frag} (c : SaysD fa fn K) {f : Fa} (h : f ∈ fa) : f.ok K = true := by
  obtain ⟨i, hi, e⟩ := List.mem_iff_getElem.mp h
  exact c.fact i (f := f) (by rw [List.getElem?_eq_getElem hi, e])
theorem SaysD.dfs {fa : List Fa} {fn : List DefD} {K : PySem.W.Frag} (c : SaysD fa fn K) {d : DefD} (h : d ∈ fn) : ∃ fd, FunD K d.name d.qual d.params d.body d.scope (d.dvs K) (d.kws K) (fAd K d.at_) fd := by
  obtain ⟨i, hi, e⟩ := List.mem_iff_getElem.mp h
  exact c.def_ i (d := d) (by rw [List.getElem?_eq_getElem hi, e])
/-! ### isinstance among own classes -/
/-- what stands behind a class in its order -/
def mroB (K : PySem.W.Frag) (C : Addr) (bm : List Value) : Bool := (match PySem.W.clsIn K C with
  | some cd => decide (cd.mro = .ref C :: bm)
  | none => false) && decide (PySem.W.typeIn K (.ref C) = some (.type "type"))
def apartB : List Nat → Bool
  | [] => true
  | a :: r => r.all (fun b => !Nat.beq a b) && apartB r
theorem apartB_ok : ∀ {l : List Nat}, apartB l = true → l.Nodup
  | [], _ => List.nodup_nil
  | a :: r, h => by
    obtain ⟨h1, h2⟩ := ba h
    refine List.nodup_cons.mpr ⟨fun m => ?_, apartB_ok h2⟩
    have z := List.all_eq_true.mp h1 a m
    rw [Nat.beq_refl] at z
    cases z
theorem mroB_ok {K : PySem.W.Frag} {C : Addr} {bm : List Value} (h : mroB K C bm = true) : (∃ cd, PySem.W.clsIn K C = some cd ∧ cd.mro = .ref C :: bm) ∧ PySem.W.typeIn K (.ref C) = some (.type "type") := by
  obtain ⟨h1, h2⟩ := ba h
  refine ⟨?_, of_decide_eq_true h2⟩
  split at h1
  · rename_i cd e
    exact ⟨cd, e, of_decide_eq_true h1⟩
  · cases h1
theorem kit_own {K : PySem.W.Frag} {C D : Addr} {bm bm' : List Value} (hC : mroB K C bm = true) (hD : mroB K D bm' = true) : PySem.W.kitOne K (.ref C) (.ref D) = some (decide (C = D) || bm.contains (.ref D)) := by
  obtain ⟨⟨cd, e1, e2⟩, _⟩ := mroB_ok hC
  obtain ⟨⟨cd', e3, _⟩, e4⟩ := mroB_ok hD
  unfold PySem.W.kitOne
  by_cases h : C = D
  · subst h
    rw [if_pos (beq_self_eq_true _)]
    simp
  · have hn : (Value.ref C == Value.ref D) = false := beq_eq_false_iff_ne.mpr fun z => h (Value.ref.inj z)
    have hn' : (Value.ref D == Value.ref C) = false := beq_eq_false_iff_ne.mpr fun z => h (Value.ref.inj z).symm
    rw [hn, if_neg Bool.false_ne_true]
    unfold PySem.W.kitCls
    dsimp only
    have e5 : ((PySem.W.clsIn K D).isSome && PySem.W.typeIn K (.ref D) == some (.type "type")) = true := by rw [e3, e4] <;> rfl
    rw [if_pos e5]
    show PySem.W.mroIn K C (.ref D) = _
    unfold PySem.W.mroIn
    rw [e1, Option.bind_some, e2, List.contains_cons, hn', Bool.false_or, decide_eq_false h, Bool.false_or]
    rfl
theorem kit_ve {K : PySem.W.Frag} {C : Addr} {bm : List Value} (hC : mroB K C bm = true) (hv : bm.contains (.type "ValueError") = true) : PySem.W.kitOne K (.ref C) (.type "ValueError") = some true := by
  obtain ⟨⟨cd, e1, e2⟩, _⟩ := mroB_ok hC
  unfold PySem.W.kitOne
  rw [show (Value.ref C == Value.type "ValueError") = false from rfl, if_neg Bool.false_ne_true]
  unfold PySem.W.kitCls
  dsimp only
  rw [if_pos (show PySem.W.kitMeta "ValueError" = true by decide +kernel)]
  show PySem.W.mroIn K C (.type "ValueError") = _
  unfold PySem.W.mroIn
  rw [e1, Option.bind_some, e2, List.contains_cons, hv, Bool.or_true]
  rfl
end Kh
set_option maxHeartbeats 0
namespace K1
open PySem PySem.Spec PyProof.Rows L2
def ld (x : Str) (i : Nat) : He.DefD := ⟨(x, none), x, x, defArgs (topS i), defBody (topS i), defScope (topS i), [], []⟩
def fn : List He.DefD := [ld "_law_purse" 38, ld "_law_mixed" 39, ld "_law_draw" 40, ld "_law_purses" 41, ld "_law_one_of" 42, ld "_law_word" 43, ld "_law_first" 44, ld "_law_called" 45, ld "_law_bare" 46, ld "_law_code" 47, ld "_law_is_error" 48, ld "_law_right" 49, ld "law" 50]
def es1 : List Kh.ErrD := [⟨"InvalidToken", topS 2⟩, ⟨"InvalidText", topS 3⟩, ⟨"InvalidForm", topS 4⟩, ⟨"InvalidForms", topS 5⟩, ⟨"InvalidWords", topS 6⟩, ⟨"Unsound", topS 7⟩, ⟨"InvalidEdition", topS 8⟩, ⟨"InvalidEditions", topS 9⟩, ⟨"InvalidChange", topS 10⟩, ⟨"InvalidChanges", topS 11⟩, ⟨"InvalidPattern", topS 12⟩, ⟨"Fault", topS 13⟩, ⟨"InvalidKey", topS 14⟩, ⟨"InvalidTree", topS 15⟩, ⟨"UnknownForm", topS 16⟩, ⟨"InvalidPath", topS 17⟩, ⟨"InvalidSpot", topS 18⟩, ⟨"InvalidMarks", topS 19⟩, ⟨"InvalidWay", topS 20⟩, ⟨"InvalidTable", topS 21⟩]
def es2 : List Kh.ErrD := [⟨"InvalidWorkshop", topS 22⟩, ⟨"InvalidLog", topS 23⟩, ⟨"InvalidScript", topS 24⟩, ⟨"InvalidCount", topS 25⟩, ⟨"Refused", topS 26⟩, ⟨"InvalidEdit", topS 27⟩, ⟨"UnknownPlace", topS 28⟩, ⟨"InvalidReason", topS 29⟩, ⟨"InvalidStack", topS 30⟩, ⟨"InvalidRow", topS 31⟩, ⟨"InvalidLot", topS 32⟩, ⟨"InvalidSurroundings", topS 33⟩, ⟨"InvalidLook", topS 34⟩]
def es : List Kh.ErrD := es1 ++ es2
def fa : List He.Fa := [.glo "_law_purse", .glo "_law_mixed", .glo "_law_draw", .glo "_law_purses", .glo "_law_one_of", .glo "_law_word", .glo "_law_first", .glo "_law_called", .glo "_law_bare", .glo "_law_code", .glo "_law_is_error", .glo "_law_right", .glo "law", .free "len", .free "max", .free "min", .free "sum", .free "int", .free "range", .free "list", .free "isinstance", .free "repr", .free "all", .free "super", .free "ValueError", .free "bool", .free "str", .glo "NothingToUndo", .exc "NothingToUndo", .glo "NothingToRedo", .exc "NothingToRedo", .glo "TongueError", .exc "TongueError"]
def ex (K : PySem.W.Frag) : Bool := bar.all (fun x => Kh.isiB K (He.ga K x)) && (decide (PySem.W.nsIn K cStatics "thirdparty.any" = some none) && (K.lookup sysModules).isSome)
abbrev veT : List Value := [.type "ValueError", .type "Exception", .type "BaseException", .type "object"]
def ey (K : PySem.W.Frag) : Bool := Kh.mroB K (He.ga K "TongueError") veT && (own.all (fun x => Kh.mroB K (He.ga K x) (.ref (He.ga K "TongueError") :: veT)) && (Kh.mroB K (He.ga K "NothingToUndo") (.ref (He.ga K "TongueError") :: veT) && (Kh.mroB K (He.ga K "NothingToRedo") (.ref (He.ga K "TongueError") :: veT) && Kh.apartB (every.map (He.ga K)))))
abbrev R : PySem.W.OpenRow := PySem.W.OpenLaw.row PySem.Challenge.rw_keptreadings_k01_errors_made
abbrev hk : PySem.W.Hook := Kh.hookH 5 "/claim/cut.py" fa fn es ex ey
def ob (s : PySem.W.SharedT) : Kh.AlH × Bool := (Kh.obH 5 "/claim/cut.py" fa fn es ex (HandSHeadRun.getT s), ey (Kh.frH (HandSHeadRun.getT s) 5))
theorem ob_eq (s : PySem.W.SharedT) : ob s = hk.obs s.abs := Kh.obH_eq (HandSHeadRun.getT_eq s)
def loose1 : List Str := ["__name__", "TongueError", "InvalidToken", "InvalidText", "InvalidForm", "InvalidForms", "InvalidWords", "Unsound", "InvalidEdition", "InvalidEditions", "InvalidChange", "InvalidChanges", "InvalidPattern", "Fault", "InvalidKey", "InvalidTree", "UnknownForm", "InvalidPath", "InvalidSpot", "InvalidMarks", "InvalidWay", "InvalidTable", "InvalidWorkshop", "InvalidLog", "InvalidScript"]
def loose2 : List Str := ["InvalidCount", "Refused", "InvalidEdit", "UnknownPlace", "InvalidReason", "InvalidStack", "InvalidRow", "InvalidLot", "InvalidSurroundings", "InvalidLook", "NothingToUndo", "NothingToRedo", "_law_purse", "_law_mixed", "_law_draw", "_law_purses", "_law_one_of", "_law_word", "_law_first", "_law_called", "_law_bare", "_law_code", "_law_is_error", "_law_right"]
def loose : List Str := loose1 ++ loose2
theorem run1 (w : World) : Kh.OneRun R (PySem.W.view R.prog [50]) (fun s => He.obsD fa fn (Kh.frH (HandSHeadRun.getT s) 5)) (He.valD fn) 20000 loose w := by
  intro os
  kernel_rfl
theorem run2 (w : World) : Kh.MoreRun R (fun s => (Kh.obH 5 "/claim/cut.py" fa fn es ex (HandSHeadRun.getT s)).2) (Kh.valH fn es).2 20000 w := by
  intro os
  kernel_rfl
theorem run3 (w : World) : Kh.MoreRun R (fun s => ey (Kh.frH (HandSHeadRun.getT s) 5)) true 20000 w := by
  intro os
  kernel_rfl
theorem run (w : World) : HandSHeadRun.RunEq R (PySem.W.view R.prog [50]) hk ob 20000 loose w := Kh.run_three (run1 w) (run2 w) (run3 w)
end K1
set_option maxHeartbeats 4000000
/-! Kr: data without heaps, and weakest preconditions over data. -/
namespace Kr
open PySem L2
inductive D where
  | non | bl (b : Bool) | int (i : Int) | str (x : Str)
  | lst (l : List D) | tup (l : List D)
  | dic (ks : List Key) (l : List D)
  | ins (C : Addr) (fs : List Str) (l : List D)
  | is (a : Addr) (d : D)
  | fz (q : Option (Obj × List V)) (a : Addr)
  | err (C : Addr) (d : D)
  | er0 (C : Addr)
/-- an exception as a value -/
def ExH (C : Addr) (od : Option Addr) (a : Addr) : HO := .ext fun h => ∃ (oe : Obj) (vs : Array Value), h.get? a = some oe ∧ oe.cls = .ref C ∧ oe.dict = od ∧ oe.data = .fields vs
mutual
inductive Rp (H : Hp) : V → D → Prop
  | non : Rp H .non .non
  | bl (b : Bool) : Rp H (.bl b) (.bl b)
  | int (i : Int) : Rp H (.int i) (.int i)
  | str (x : Str) : Rp H (.str x) (.str x)
  | lst {a : Addr} {xs : List V} {ds : List D} : H a = some (.lst xs) → RpA H xs ds → Rp H (.ref a) (.lst ds)
  | tup {a : Addr} {xs : List V} {ds : List D} : H a = some (.tup xs) → RpA H xs ds → Rp H (.ref a) (.tup ds)
  | dic {a : Addr} {kvs : List (Key × V)} {ks : List Key} {vs : List V} {ds : List D} : H a = some (.dK kvs) → kvs = ks.zip vs → ks.length = vs.length → RpA H vs ds → Rp H (.ref a) (.dic ks ds)
  | ins {a C dx : Addr} {fs : List (Str × V)} {ks : List Str} {vs : List V} {ds : List D} : H a = some (.ins C dx fs) → fs = ks.zip vs → ks.length = vs.length → RpA H vs ds → Rp H (.ref a) (.ins C ks ds)
  | is {a : Addr} {d : D} : Rp H (.ref a) d → Rp H (.ref a) (.is a d)
  | fz {a : Addr} {q : Option (Obj × List V)} : (∀ o xs, q = some (o, xs) → H a = some (.frz o (.lst xs))) → Rp H (.ref a) (.fz q a)
  | err {a C dd : Addr} {v : V} {d : D} : H a = some (ExH C (some dd) a) → H dd = some (.xd [(("value" : Str), v)]) → Rp H v d → Rp H (.ref a) (.err C d)
  | er0 {a C : Addr} : H a = some (ExH C none a) → Rp H (.ref a) (.er0 C)
inductive RpA (H : Hp) : List V → List D → Prop
  | nil : RpA H [] []
  | cons {v : V} {vs : List V} {d : D} {ds : List D} : Rp H v d → RpA H vs ds → RpA H (v :: vs) (d :: ds)
end
mutual
theorem Rp.mono {H H' : Hp} (e : Same H H') : ∀ {v : V} {d : D}, Rp H v d → Rp H' v d
  | _, _, .non => .non
  | _, _, .bl b => .bl b
  | _, _, .int i => .int i
  | _, _, .str x => .str x
  | _, _, .lst h r => .lst (e _ _ h) (RpA.mono e r)
  | _, _, .tup h r => .tup (e _ _ h) (RpA.mono e r)
  | _, _, .dic h k l r => .dic (e _ _ h) k l (RpA.mono e r)
  | _, _, .ins h k l r => .ins (e _ _ h) k l (RpA.mono e r)
  | _, _, .is r => .is (Rp.mono e r)
  | _, _, .fz h => .fz fun o xs z => e _ _ (h o xs z)
  | _, _, .err h1 h2 r => .err (e _ _ h1) (e _ _ h2) (Rp.mono e r)
  | _, _, .er0 h => .er0 (e _ _ h)
theorem RpA.mono {H H' : Hp} (e : Same H H') : ∀ {vs : List V} {ds : List D}, RpA H vs ds → RpA H' vs ds
  | _, _, .nil => .nil
  | _, _, .cons h r => .cons (Rp.mono e h) (RpA.mono e r)
end
theorem RpA.length {H : Hp} : ∀ {vs : List V} {ds : List D}, RpA H vs ds → vs.length = ds.length
  | _, _, .nil => rfl
  | _, _, .cons _ r => by rw [List.length_cons, List.length_cons, RpA.length r]
theorem RpA.get {H : Hp} : ∀ {vs : List V} {ds : List D}, RpA H vs ds → ∀ {i : Nat} {d : D}, ds[i]? = some d → ∃ v, vs[i]? = some v ∧ Rp H v d
  | _, _, .cons h r, 0, d, e => by
    have e' := Option.some.inj e
    subst e'
    exact ⟨_, rfl, h⟩
  | _, _, .cons h r, i + 1, d, e => RpA.get r (i := i) e
theorem RpA.getV {H : Hp} : ∀ {vs : List V} {ds : List D}, RpA H vs ds → ∀ {i : Nat} {v : V}, vs[i]? = some v → ∃ d, ds[i]? = some d ∧ Rp H v d
  | _, _, .cons h r, 0, d, e => by
    have e' := Option.some.inj e
    subst e'
    exact ⟨_, rfl, h⟩
  | _, _, .cons h r, i + 1, d, e => RpA.getV r (i := i) e
theorem RpA.append {H : Hp} : ∀ {vs : List V} {ds : List D} {ws : List V} {es : List D}, RpA H vs ds → RpA H ws es → RpA H (vs ++ ws) (ds ++ es)
  | _, _, _, _, .nil, s => s
  | _, _, _, _, .cons h r, s => .cons h (RpA.append r s)
theorem RpA.one {H : Hp} {v : V} {d : D} (h : Rp H v d) : RpA H [v] [d] := .cons h .nil
theorem RpA.take {H : Hp} : ∀ {vs : List V} {ds : List D} (n : Nat), RpA H vs ds → RpA H (vs.take n) (ds.take n)
  | _, _, 0, _ => by simpa using RpA.nil
  | _, _, _ + 1, .nil => by simpa using RpA.nil
  | _, _, n + 1, .cons h r => .cons h (RpA.take n r)
theorem RpA.drop {H : Hp} : ∀ {vs : List V} {ds : List D} (n : Nat), RpA H vs ds → RpA H (vs.drop n) (ds.drop n)
  | _, _, 0, r => r
  | _, _, _ + 1, .nil => .nil
  | _, _, n + 1, .cons _ r => RpA.drop n r
theorem RpA.set {H : Hp} {v : V} {d : D} (h : Rp H v d) : ∀ {vs : List V} {ds : List D} (n : Nat), RpA H vs ds → RpA H (vs.set n v) (ds.set n d)
  | _, _, _, .nil => .nil
  | _, _, 0, .cons _ r => .cons h r
  | _, _, n + 1, .cons g r => .cons g (RpA.set h n r)
theorem RpA.strs {H : Hp} : ∀ {vs : List V} {xs : List Str}, RpA H vs (xs.map D.str) → vs = xs.map V.str
  | _, [], r => by cases r; rfl
  | _, x :: xs, r => by
    cases r with
    | cons h r =>
      cases h
      rw [RpA.strs r]
      rfl
theorem RpA.ints {H : Hp} : ∀ {vs : List V} {xs : List Int}, RpA H vs (xs.map D.int) → vs = xs.map V.int
  | _, [], r => by cases r; rfl
  | _, x :: xs, r => by
    cases r with
    | cons h r =>
      cases h
      rw [RpA.ints r]
      rfl
theorem RpA.bls {H : Hp} : ∀ {vs : List V} {xs : List Bool}, RpA H vs (xs.map D.bl) → vs = xs.map V.bl
  | _, [], r => by cases r; rfl
  | _, x :: xs, r => by
    cases r with
    | cons h r =>
      cases h
      rw [RpA.bls r]
      rfl
theorem RpA.ofStrs {H : Hp} : ∀ {xs : List Str}, RpA H (xs.map V.str) (xs.map D.str)
  | [] => .nil
  | x :: xs => .cons (.str x) RpA.ofStrs
theorem RpA.ofInts {H : Hp} : ∀ {xs : List Int}, RpA H (xs.map V.int) (xs.map D.int)
  | [] => .nil
  | x :: xs => .cons (.int x) RpA.ofInts
/-! ### the view: some addresses hidden -/
def Off (A : List Addr) (H : Hp) : Hp := fun b => if b ∈ A then none else H b
section
variable {A A' : List Addr} {H H' : Hp} {a b p : Addr} {o : HO}
theorem off_some (h : Off A H b = some o) : b ∉ A ∧ H b = some o := by
  unfold Off at h
  by_cases hb : b ∈ A
  · rw [if_pos hb] at h; cases h
  · rw [if_neg hb] at h; exact ⟨hb, h⟩
theorem off_of (hb : b ∉ A) (h : H b = some o) : Off A H b = some o := by
  unfold Off
  rw [if_neg hb]; exact h
theorem off_same (e : Same H H') : Same (Off A H) (Off A H') := fun b o h => off_of (off_some h).1 (e _ _ (off_some h).2)
theorem off_nil : Off [] H = H := by
  funext b
  unfold Off
  simp
theorem off_le (e : ∀ a ∈ A, a ∈ A') : Same (Off A' H) (Off A H) := fun b o h => off_of (fun hb => (off_some h).1 (e _ hb)) (off_some h).2
theorem off_in : Same (Off A H) H := fun b o h => (off_some h).2
theorem off_upd (ha : a ∈ A) : Off A (upd H a o) = Off A H := by
  funext b
  unfold Off
  by_cases hb : b ∈ A
  · rw [if_pos hb, if_pos hb]
  · rw [if_neg hb, if_neg hb]
    exact upd_ne (fun e => hb (e ▸ ha))
theorem same_new (h : H p = none) : Same H (upd H p o) := fun b x e => by
  rw [upd_ne (ne_of_none e h)]
  exact e
theorem off_new (h : H p = none) : Same (Off A H) (Off A (upd H p o)) := off_same (same_new h)
/-- a new object that is hidden at once -/
theorem off_hid (h : H p = none) : Same (Off A H) (Off (p :: A) (upd H p o)) := fun b x e => by
  obtain ⟨h1, h2⟩ := off_some e
  have hb : b ≠ p := ne_of_none h2 h
  refine off_of (fun z => ?_) (by rw [upd_ne hb]; exact h2)
  rcases List.mem_cons.mp z with z | z
  · exact hb z
  · exact h1 z
end
/-! ### slots -/
inductive Sl where
  | any | imm (d : D) | own (ds : List D) | pur (a : Addr) (n : Nat) | exc (a dd : Addr) (d : D) | oat (a : Addr) (ds : List D)
def Sl.isOwn : Sl → Bool
  | .own _ => true
  | .pur _ _ => true
  | .oat _ _ => true
  | _ => false
/-- a purse of the laws: four numbers, the third one at most n -/
def Pur (H : Hp) (a : Addr) (n : Nat) : Prop := ∃ x y z t : Int, H a = some (.lst [.int x, .int y, .int z, .int t]) ∧ 0 ≤ x ∧ x < 10 ^ 480 ∧ 0 ≤ y ∧ y < 2147483648 ∧ 0 ≤ z ∧ z ≤ n ∧ 0 ≤ t ∧ t < 1000
/-- what a def's body leans on: the purses, what its caller hides, what stood at the entry -/
structure Bs where
  Z : List Addr
  A0 : List Addr
  B : Hp
  H0 : Hp
def SlOk (β : Bs) (T A : List Addr) (H : Hp) (o : Option V) : Sl → Prop
  | .any => True
  | .imm d => ∃ v, o = some v ∧ Rp (Off (T ++ A) H) v d
  | .own ds => ∃ a xs, o = some (V.ref a) ∧ (a ∈ A ∧ a ∉ β.A0 ∧ β.H0 a = none) ∧ H a = some (.lst xs) ∧ RpA (Off (T ++ A) H) xs ds
  | .pur a n => o = some (V.ref a) ∧ a ∈ β.Z ∧ Pur H a n
  | .exc a dd d => o = some (V.ref a) ∧ ∃ v, Off (T ++ A) H dd = some (.xd [(("value" : Str), v)]) ∧ Rp (Off (T ++ A) H) v d
  | .oat a ds => o = some (V.ref a) ∧ (a ∈ A ∧ a ∉ β.A0 ∧ β.H0 a = none) ∧ ∃ xs, H a = some (.lst xs) ∧ RpA (Off (T ++ A) H) xs ds
structure Env (β : Bs) (T A : List Addr) (σ : L2.St) (H : Hp) (Γ : List Sl) : Prop where
  len : σ.length = Γ.length
  ok : ∀ (i : Nat) (s : Sl), Γ[i]? = some s → ∃ o, σ[i]? = some o ∧ SlOk β T A H o s
  dis : ∀ (i j : Nat) (s s' : Sl) (a : Addr), Γ[i]? = some s → Γ[j]? = some s' → s.isOwn = true → s'.isOwn = true → σ[i]? = some (some (V.ref a)) → σ[j]? = some (some (V.ref a)) → i = j
  base : Same β.B (Off (T ++ A) H)
  sub : ∀ a ∈ β.A0, a ∈ A
  zs : ∀ a ∈ β.Z, a ∈ β.A0
  live : ∀ a ∈ T ++ A, H a ≠ none
  dj : ∀ a ∈ A, a ∉ T
  all : Same (Off β.Z β.H0) (Off β.Z H)
section
variable {β : Bs} {T A A' : List Addr} {H H' : Hp} {σ σ' : L2.St} {Γ : List Sl} {i j : Nat} {v : V} {d : D} {p : Addr} {o : HO} {s : Sl}
theorem all_upd {Z : List Addr} {H0 : Hp} (e : Same (Off Z H0) (Off Z H)) (h0 : H0 p = none) : Same (Off Z H0) (Off Z (upd H p o)) := fun b x z => by
  obtain ⟨z1, z2⟩ := off_some z
  obtain ⟨z3, z4⟩ := off_some (e b x z)
  exact off_of z1 (by rw [upd_ne (ne_of_none z2 h0)]; exact z4)
theorem SlOk.mono {o : Option V} (h : SlOk β T A H o s) (hA : ∀ a ∈ A, a ∈ A') (T' : List Addr) (g : Same (Off (T ++ A) H) (Off (T' ++ A') H')) (go : ∀ a x, a ∈ A → a ∉ β.A0 → H a = some x → H' a = some x) (gp : ∀ a ∈ β.Z, ∀ x, H a = some x → H' a = some x) : SlOk β T' A' H' o s := by
  cases s with
  | any => trivial
  | imm d => obtain ⟨v, h3, h4⟩ := h; exact ⟨v, h3, h4.mono g⟩
  | own ds => obtain ⟨a, xs, h3, h4, h5, h6⟩ := h; exact ⟨a, xs, h3, ⟨hA _ h4.1, h4.2⟩, go _ _ h4.1 h4.2.1 h5, h6.mono g⟩
  | pur a n => obtain ⟨h3, h4, x, y, z, t, h5, h6⟩ := h; exact ⟨h3, h4, x, y, z, t, gp _ h4 _ h5, h6⟩
  | exc a dd d => obtain ⟨h3, v, h4, h5⟩ := h; exact ⟨h3, v, g _ _ h4, h5.mono g⟩
  | oat a ds => obtain ⟨h3, h4, xs, h5, h6⟩ := h; exact ⟨h3, ⟨hA _ h4.1, h4.2⟩, xs, go _ _ h4.1 h4.2.1 h5, h6.mono g⟩
theorem Env.get (e : Env β T A σ H Γ) (h : Γ[i]? = some (.imm d)) : ∃ v, σ[i]? = some (some v) ∧ Rp (Off (T ++ A) H) v d := by
  obtain ⟨o, h1, v, h2, h3⟩ := e.ok i _ h
  subst h2
  exact ⟨v, h1, h3⟩
theorem Env.zA (e : Env β T A σ H Γ) : ∀ a ∈ β.Z, a ∈ T ++ A := fun a h => List.mem_append_right _ (e.sub a (e.zs a h))
theorem Env.a0A (e : Env β T A σ H Γ) : ∀ a ∈ β.A0, a ∈ T ++ A := fun a h => List.mem_append_right _ (e.sub a h)
/-- all but the purses stands: so do the views -/
theorem Env.vw (e : Env β T A σ H Γ) (g : Same (Off β.Z H) (Off β.Z H')) : Same (Off (T ++ A) H) (Off (T ++ A) H') := fun b o h => by
  obtain ⟨h1, h2⟩ := off_some h
  exact off_of h1 (off_some (g b o (off_of (fun z => h1 (e.zA b z)) h2))).2
theorem Env.vw0 (e : Env β T A σ H Γ) (g : Same (Off β.Z H) (Off β.Z H')) : Same (Off β.A0 H) (Off β.A0 H') := fun b o h => by
  obtain ⟨h1, h2⟩ := off_some h
  exact off_of h1 (off_some (g b o (off_of (fun z => h1 (e.zs b z)) h2))).2
theorem Env.up (e : Env β T A σ H Γ) : Same (Off (T ++ A) H) (Off β.A0 H) := off_le e.a0A
/-- what is tracked grows, the slots stay -/
theorem Env.grow (e : Env β T A σ H Γ) (g : Same H H') : Env β T A σ H' Γ := by
  refine ⟨e.len, fun i s h => ?_, e.dis, fun b x z => off_same g _ _ (e.base _ _ z), e.sub, e.zs, fun a ha z => ?_, e.dj, e.all.trans (off_same g)⟩
  · obtain ⟨o, h1, h2⟩ := e.ok i s h
    exact ⟨o, h1, h2.mono (fun _ h => h) T (off_same g) (fun a x _ _ q => g _ _ q) fun a _ x q => g _ _ q⟩
  · cases q : H a with
    | none => exact e.live a ha q
    | some u => rw [g _ _ q] at z; cases z
/-- a new object, hidden as a thing in the making -/
theorem Env.tmp (e : Env β T A σ H Γ) (hp : H p = none) : Env β (p :: T) A σ (upd H p o) Γ := by
  have g := same_new (o := o) hp
  have go : Same (Off (T ++ A) H) (Off ((p :: T) ++ A) (upd H p o)) := off_hid hp
  refine ⟨e.len, fun i s h => ?_, e.dis, fun b x z => go _ _ (e.base _ _ z), e.sub, e.zs, fun a ha z => ?_, fun a ha z => ?_, e.all.trans (off_new hp)⟩
  · obtain ⟨o, h1, h2⟩ := e.ok i s h
    exact ⟨o, h1, h2.mono (fun _ h => h) (p :: T) go (fun a x _ _ q => g _ _ q) fun a _ x q => g _ _ q⟩
  · by_cases hb : a = p
    · subst hb
      rw [upd_same] at z; cases z
    · rw [upd_ne hb] at z
      refine e.live a ?_ z
      rcases List.mem_cons.mp (show a ∈ p :: (T ++ A) from ha) with q | q
      · exact absurd q hb
      · exact q
  · rcases List.mem_cons.mp z with q | q
    · exact e.live a (List.mem_append_right _ ha) (q ▸ hp)
    · exact e.dj a ha q
/-- what is in the making changes -/
theorem Env.retmp (e : Env β (p :: T) A σ H Γ) (h0 : β.H0 p = none) : Env β (p :: T) A σ (upd H p o) Γ := by
  have hm : p ∈ (p :: T) ++ A := List.mem_cons_self
  have eo : Off ((p :: T) ++ A) (upd H p o) = Off ((p :: T) ++ A) H := off_upd hm
  have hpA : p ∉ A := fun z => e.dj p z List.mem_cons_self
  refine ⟨e.len, fun i s h => ?_, e.dis, by rw [eo]; exact e.base, e.sub, e.zs, fun a ha z => ?_, e.dj, all_upd e.all h0⟩
  · obtain ⟨o, h1, h2⟩ := e.ok i s h
    refine ⟨o, h1, h2.mono (fun _ h => h) (p :: T) (by rw [eo]; exact Same.refl _) (fun a x ha _ q => ?_) fun a ha x q => ?_⟩
    · rw [upd_ne (fun (z : a = p) => hpA (z ▸ ha))]; exact q
    · rw [upd_ne (fun (z : a = p) => hpA (z ▸ e.sub a (e.zs a ha)))]; exact q
  · by_cases hb : a = p
    · rw [hb, upd_same] at z; cases z
    · rw [upd_ne hb] at z; exact e.live a ha z
/-- what was in the making is shown -/
theorem Env.untmp (e : Env β (p :: T) A σ H Γ) : Env β T A σ H Γ := by
  have go : Same (Off ((p :: T) ++ A) H) (Off (T ++ A) H) := off_le fun a ha => List.mem_cons_of_mem _ ha
  refine ⟨e.len, fun i s h => ?_, e.dis, fun b x z => go _ _ (e.base _ _ z), e.sub, e.zs, fun a ha z => e.live a (List.mem_cons_of_mem _ ha) z, fun a ha z => e.dj a ha (List.mem_cons_of_mem _ z), e.all⟩
  obtain ⟨o, h1, h2⟩ := e.ok i s h
  exact ⟨o, h1, h2.mono (fun _ h => h) T go (fun a x _ _ q => q) fun a _ x q => q⟩
theorem set_get {α : Type} {l : List α} {x y : α} (h : (l.set i x)[j]? = some y) : (j = i ∧ y = x ∧ i < l.length) ∨ (j ≠ i ∧ l[j]? = some y) := by
  by_cases hj : i = j
  · subst hj
    by_cases hl : i < l.length
    · rw [List.getElem?_set_self hl] at h
      exact .inl ⟨rfl, (Option.some.inj h).symm, hl⟩
    · rw [List.set_eq_of_length_le (by omega)] at h
      have := (List.getElem?_eq_some_iff.mp h).1
      omega
  · rw [List.getElem?_set_ne hj] at h
    exact .inr ⟨fun e => hj e.symm, h⟩
theorem Env.set0 (e : Env β T A σ H Γ) (v : Option V) (hs : SlOk β T A H v s)
    (hd : s.isOwn = true → ∀ (j : Nat) (s' : Sl) (a : Addr), j ≠ i → Γ[j]? = some s' → s'.isOwn = true → v = some (V.ref a) → σ[j]? = some (some (V.ref a)) → False) : Env β T A (σ.set i v) H (Γ.set i s) := by
  refine ⟨by rw [List.length_set, List.length_set]; exact e.len, fun j s' h => ?_, fun j k s1 s2 a h1 h2 o1 o2 g1 g2 => ?_, e.base, e.sub, e.zs, e.live, e.dj, e.all⟩
  · rcases set_get h with ⟨rfl, rfl, hl⟩ | ⟨hj, h⟩
    · exact ⟨v, List.getElem?_set_self (by rw [e.len]; exact hl), hs⟩
    · obtain ⟨o, h1, h2⟩ := e.ok j s' h
      exact ⟨o, by rw [List.getElem?_set_ne (fun z => hj z.symm)]; exact h1, h2⟩
  · rcases set_get h1 with ⟨rfl, rfl, hl⟩ | ⟨hj, h1'⟩
    · rcases set_get h2 with ⟨rfl, rfl, _⟩ | ⟨hk, h2'⟩
      · rfl
      · rw [List.getElem?_set_self (by rw [e.len]; exact hl)] at g1
        rw [List.getElem?_set_ne (fun z => hk z.symm)] at g2
        exact (hd o1 k s2 a hk h2' o2 (Option.some.inj g1) g2).elim
    · rw [List.getElem?_set_ne (fun z => hj z.symm)] at g1
      rcases set_get h2 with ⟨rfl, rfl, hl⟩ | ⟨hk, h2'⟩
      · rw [List.getElem?_set_self (by rw [e.len]; exact hl)] at g2
        exact (hd o2 j s1 a hj h1' o1 (Option.some.inj g2) g1).elim
      · rw [List.getElem?_set_ne (fun z => hk z.symm)] at g2
        exact e.dis j k s1 s2 a h1' h2' o1 o2 g1 g2
theorem Env.set (e : Env β T A σ H Γ) (r : Rp (Off (T ++ A) H) v d) : Env β T A (σ.set i (some v)) H (Γ.set i (.imm d)) :=
  e.set0 _ ⟨v, rfl, r⟩ fun z => by cases z
theorem Env.forget (e : Env β T A σ H Γ) (o : Option V) : Env β T A (σ.set i o) H (Γ.set i .any) := e.set0 _ trivial fun z => by cases z
theorem Env.fresh0 (e : Env β T A σ H Γ) (hp : H p = none) : β.H0 p = none := by
  cases q : β.H0 p with
  | none => rfl
  | some x =>
    by_cases hz : p ∈ β.Z
    · exact absurd hp (e.live p (e.zA p hz))
    · have z := (off_some (e.all p x (off_of hz q))).2
      rw [hp] at z; cases z
/-- a slot is forgotten, the values stay -/
theorem Env.any (e : Env β T A σ H Γ) : Env β T A σ H (Γ.set i .any) := by
  refine ⟨by rw [List.length_set]; exact e.len, fun j s' h => ?_, fun j k s1 s2 a h1 h2 o1 o2 g1 g2 => ?_, e.base, e.sub, e.zs, e.live, e.dj, e.all⟩
  · rcases set_get h with ⟨rfl, rfl, hl⟩ | ⟨hj, h⟩
    · exact ⟨σ[j]'(by rw [e.len]; exact hl), List.getElem?_eq_getElem _, trivial⟩
    · exact e.ok j s' h
  · rcases set_get h1 with ⟨rfl, rfl, hl⟩ | ⟨hj, h1'⟩
    · cases o1
    · rcases set_get h2 with ⟨rfl, rfl, hl⟩ | ⟨hk, h2'⟩
      · cases o2
      · exact e.dis j k s1 s2 a h1' h2' o1 o2 g1 g2
/-- a new list of one's own in a slot: it was in the making -/
theorem Env.own (e : Env β (p :: T) A σ H Γ) {xs : List V} {ds : List D} (hp : H p = some (.lst xs)) (hTA : p ∉ T ++ A) (h0 : β.H0 p = none) (r : RpA (Off ((p :: T) ++ A) H) xs ds) : Env β T (p :: A) (σ.set i (some (V.ref p))) H (Γ.set i (.own ds)) := by
  have go : Same (Off ((p :: T) ++ A) H) (Off (T ++ (p :: A)) H) := off_le fun a ha => by
    rcases List.mem_append.mp ha with h | h
    · exact List.mem_append_left _ (List.mem_cons_of_mem _ h)
    · rcases List.mem_cons.mp h with h | h
      · rw [h]; exact List.mem_append_left _ List.mem_cons_self
      · exact List.mem_append_right _ h
  have hA : p ∉ A := fun z => hTA (List.mem_append_right _ z)
  have e1 : Env β T (p :: A) σ H Γ := by
    refine ⟨e.len, fun i s h => ?_, e.dis, fun b x z => go _ _ (e.base _ _ z), fun a ha => List.mem_cons_of_mem _ (e.sub a ha), e.zs, fun a ha z => ?_, fun a ha z => ?_, e.all⟩
    · obtain ⟨o, h1, h2⟩ := e.ok i s h
      exact ⟨o, h1, h2.mono (fun _ h => List.mem_cons_of_mem _ h) T go (fun a x _ _ q => q) fun a _ x q => q⟩
    · rcases List.mem_append.mp ha with h | h
      · exact e.live a (List.mem_append_left _ (List.mem_cons_of_mem _ h)) z
      · rcases List.mem_cons.mp h with h | h
        · rw [h, hp] at z; cases z
        · exact e.live a (List.mem_append_right _ h) z
    · rcases List.mem_cons.mp ha with h | h
      · exact hTA (List.mem_append_left _ (h ▸ z))
      · exact e.dj a h (List.mem_cons_of_mem _ z)
  refine e1.set0 _ ⟨p, xs, rfl, ⟨List.mem_cons_self, fun z => hA (e.sub p z), h0⟩, hp, r.mono go⟩ fun _ j s' a hj hs ho hv hg => ?_
  cases hv
  obtain ⟨o, h1, h2⟩ := e.ok j s' hs
  rw [hg] at h1
  have h1 := Option.some.inj h1
  subst h1
  cases s' with
  | any => cases ho
  | imm d => cases ho
  | own ds => obtain ⟨a, xs, h3, h4, _⟩ := h2; cases h3; exact hA h4.1
  | pur a n => obtain ⟨h3, h4, _⟩ := h2; cases h3; exact hA (e.sub _ (e.zs _ h4))
  | exc a dd d => cases ho
  | oat a ds => obtain ⟨h3, h4, _⟩ := h2; cases h3; exact hA h4.1
theorem Env.at (e : Env β T A σ H Γ) {ds : List D} (h : Γ[i]? = some (.own ds)) : ∃ p xs, σ[i]? = some (some (V.ref p)) ∧ p ∈ A ∧ (p ∉ β.A0 ∧ β.H0 p = none) ∧ H p = some (.lst xs) ∧ RpA (Off (T ++ A) H) xs ds := by
  obtain ⟨o, h1, a, xs, rfl, h4, h5, h6⟩ := e.ok i _ h
  exact ⟨a, xs, h1, h4.1, h4.2, h5, h6⟩
/-- an owned list changes -/
theorem Env.put (e : Env β T A σ H Γ) {ds ds' : List D} {xs' : List V} (h : Γ[i]? = some (.own ds)) (h1 : σ[i]? = some (some (V.ref p))) (hA : p ∈ A) (h0 : p ∉ β.A0 ∧ β.H0 p = none) (r : RpA (Off (T ++ A) H) xs' ds') : Env β T A σ (upd H p (.lst xs')) (Γ.set i (.own ds')) := by
  have hm : p ∈ T ++ A := List.mem_append_right _ hA
  have eo : Off (T ++ A) (upd H p (.lst xs')) = Off (T ++ A) H := off_upd hm
  refine ⟨by rw [List.length_set]; exact e.len, fun j s' hj => ?_, fun j k s1 s2 b h1' h2' o1 o2 g1 g2 => ?_, by rw [eo]; exact e.base, e.sub, e.zs, fun b hb z => ?_, e.dj, all_upd e.all h0.2⟩
  · rcases set_get hj with ⟨rfl, rfl, hl⟩ | ⟨hji, hj⟩
    · exact ⟨_, h1, p, xs', rfl, ⟨hA, h0⟩, upd_same, by rw [eo]; exact r⟩
    · obtain ⟨o, q1, q2⟩ := e.ok j s' hj
      refine ⟨o, q1, ?_⟩
      cases s' with
      | any => trivial
      | imm d => obtain ⟨v, h3, h4⟩ := q2; exact ⟨v, h3, by rw [eo]; exact h4⟩
      | own ds =>
        obtain ⟨b, ys, h3, h4', h5', h6'⟩ := q2
        subst h3
        have hb : b ≠ p := fun z => by
          rw [z] at q1
          exact hji (e.dis j i _ _ p hj h rfl rfl q1 h1)
        exact ⟨b, ys, rfl, h4', by rw [upd_ne hb]; exact h5', by rw [eo]; exact h6'⟩
      | pur b n =>
        obtain ⟨h3, h4', x, y, z, t, h5', h6'⟩ := q2
        subst h3
        have hb : b ≠ p := fun z => by
          rw [z] at q1
          exact hji (e.dis j i _ _ p hj h rfl rfl q1 h1)
        exact ⟨rfl, h4', x, y, z, t, by rw [upd_ne hb]; exact h5', h6'⟩
      | exc b dd d => obtain ⟨h3, v, h4', h5'⟩ := q2; exact ⟨h3, v, by rw [eo]; exact h4', by rw [eo]; exact h5'⟩
      | oat b ds =>
        obtain ⟨h3, h4', ys, h5', h6'⟩ := q2
        subst h3
        have hb : b ≠ p := fun z => by
          rw [z] at q1
          exact hji (e.dis j i _ _ p hj h rfl rfl q1 h1)
        exact ⟨rfl, h4', ys, by rw [upd_ne hb]; exact h5', by rw [eo]; exact h6'⟩
  · have key : ∀ {j : Nat} {s' : Sl}, (Γ.set i (.own ds'))[j]? = some s' → s'.isOwn = true → ∃ s'', Γ[j]? = some s'' ∧ s''.isOwn = true := fun {j s'} hh ho => by
      rcases set_get hh with ⟨rfl, rfl, _⟩ | ⟨_, hh⟩
      · exact ⟨_, h, rfl⟩
      · exact ⟨_, hh, ho⟩
    obtain ⟨t1, w1, w2⟩ := key h1' o1
    obtain ⟨t2, w3, w4⟩ := key h2' o2
    exact e.dis j k t1 t2 b w1 w3 w2 w4 g1 g2
  · by_cases hb' : b = p
    · rw [hb', upd_same] at z; cases z
    · rw [upd_ne hb'] at z; exact e.live b hb z
/-- a purse changes -/
theorem Env.bump (e : Env β T A σ H Γ) {n m : Nat} (h : Γ[i]? = some (.pur p n)) (g : ∀ b x, b ≠ p → H b = some x → H' b = some x) (hp : Pur H' p m) : Env β T A σ H' (Γ.set i (.pur p m)) ∧ Same (Off β.Z H) (Off β.Z H') := by
  obtain ⟨o, h1, rfl, h4, h5⟩ := e.ok i _ h
  have hm : p ∈ T ++ A := e.zA _ h4
  have ez : Same (Off β.Z H) (Off β.Z H') := fun b x z => by
    obtain ⟨z1, z2⟩ := off_some z
    exact off_of z1 (g b x (fun q => z1 (q ▸ h4)) z2)
  have eo := e.vw ez
  refine ⟨⟨by rw [List.length_set]; exact e.len, fun j s' hj => ?_, fun j k s1 s2 b h1' h2' o1 o2 g1 g2 => ?_, fun b x z => eo _ _ (e.base _ _ z), e.sub, e.zs, fun b hb z => ?_, e.dj, e.all.trans ez⟩, ez⟩
  · rcases set_get hj with ⟨rfl, rfl, hl⟩ | ⟨hji, hj⟩
    · exact ⟨_, h1, rfl, h4, hp⟩
    · obtain ⟨o, q1, q2⟩ := e.ok j s' hj
      refine ⟨o, q1, ?_⟩
      cases s' with
      | any => trivial
      | imm d => obtain ⟨v, h3, h4⟩ := q2; exact ⟨v, h3, h4.mono eo⟩
      | own ds =>
        obtain ⟨b, ys, h3, h4', h5', h6'⟩ := q2
        subst h3
        have hb : b ≠ p := fun z => by
          rw [z] at q1
          exact hji (e.dis j i _ _ p hj h rfl rfl q1 h1)
        exact ⟨b, ys, rfl, h4', g _ _ hb h5', h6'.mono eo⟩
      | pur b n =>
        obtain ⟨h3, h4', x, y, z, t, h5', h6'⟩ := q2
        subst h3
        have hb : b ≠ p := fun z => by
          rw [z] at q1
          exact hji (e.dis j i _ _ p hj h rfl rfl q1 h1)
        exact ⟨rfl, h4', x, y, z, t, g _ _ hb h5', h6'⟩
      | exc b dd d => obtain ⟨h3, v, h4', h5'⟩ := q2; exact ⟨h3, v, eo _ _ h4', h5'.mono eo⟩
      | oat b ds =>
        obtain ⟨h3, h4', ys, h5', h6'⟩ := q2
        subst h3
        have hb : b ≠ p := fun z => by
          rw [z] at q1
          exact hji (e.dis j i _ _ p hj h rfl rfl q1 h1)
        exact ⟨rfl, h4', ys, g _ _ hb h5', h6'.mono eo⟩
  · have key : ∀ {j : Nat} {s' : Sl}, (Γ.set i (.pur p m))[j]? = some s' → s'.isOwn = true → ∃ s'', Γ[j]? = some s'' ∧ s''.isOwn = true := fun {j s'} hh ho => by
      rcases set_get hh with ⟨rfl, rfl, _⟩ | ⟨_, hh⟩
      · exact ⟨_, h, rfl⟩
      · exact ⟨_, hh, ho⟩
    obtain ⟨t1, w1, w2⟩ := key h1' o1
    obtain ⟨t2, w3, w4⟩ := key h2' o2
    exact e.dis j k t1 t2 b w1 w3 w2 w4 g1 g2
  · by_cases hb' : b = p
    · obtain ⟨x, y, zz, t, h5', _⟩ := hp
      rw [hb', h5'] at z; cases z
    · cases q : H b with
      | none => exact e.live b hb q
      | some u => rw [g _ _ hb' q] at z; cases z
/-- a list of one's own is frozen -/
theorem Env.freeze (e : Env β T A σ H Γ) {ds : List D} (h : Γ[i]? = some (.own ds)) : ∃ A', Env β T A' σ H (Γ.set i (.imm (.lst ds))) ∧ Same (Off (T ++ A) H) (Off (T ++ A') H) := by
  obtain ⟨o, h1, a, xs, rfl, h4, h5, h6⟩ := e.ok i _ h
  have sb : ∀ b ∈ A.filter (fun b => decide (b ≠ a)), b ∈ A := fun b hb => (List.mem_filter.mp hb).1
  have sT : ∀ b ∈ T ++ A.filter (fun b => decide (b ≠ a)), b ∈ T ++ A := fun b hb => by
    rcases List.mem_append.mp hb with q | q
    · exact List.mem_append_left _ q
    · exact List.mem_append_right _ (sb b q)
  have go : Same (Off (T ++ A) H) (Off (T ++ A.filter (fun b => decide (b ≠ a))) H) := off_le sT
  have keep : ∀ {b}, b ∈ A → b ≠ a → b ∈ A.filter (fun b => decide (b ≠ a)) := fun hb hn => List.mem_filter.mpr ⟨hb, decide_eq_true hn⟩
  have haT : a ∉ T ++ A.filter (fun b => decide (b ≠ a)) := fun z => by
    rcases List.mem_append.mp z with q | q
    · exact e.dj a h4.1 q
    · have q := (List.mem_filter.mp q).2
      simp at q
  refine ⟨A.filter (fun b => decide (b ≠ a)), ⟨by rw [List.length_set]; exact e.len, fun j s' hj => ?_, fun j k s1 s2 b h1' h2' o1 o2 g1 g2 => ?_, fun b x z => go _ _ (e.base _ _ z), fun b hb => keep (e.sub b hb) (fun z => h4.2.1 (z ▸ hb)), e.zs, fun b hb z => e.live b (sT b hb) z, fun b hb => e.dj b (sb b hb), e.all⟩, go⟩
  · rcases set_get hj with ⟨rfl, rfl, hl⟩ | ⟨hji, hj⟩
    · exact ⟨_, h1, V.ref a, rfl, .lst (off_of haT h5) (h6.mono go)⟩
    · obtain ⟨o, q1, q2⟩ := e.ok j s' hj
      refine ⟨o, q1, ?_⟩
      cases s' with
      | any => trivial
      | imm d => obtain ⟨v, h3, h4⟩ := q2; exact ⟨v, h3, h4.mono go⟩
      | own ds =>
        obtain ⟨b, ys, h3, h4', h5', h6'⟩ := q2
        subst h3
        have hb : b ≠ a := fun z => by
          rw [z] at q1
          exact hji (e.dis j i _ _ a hj h rfl rfl q1 h1)
        exact ⟨b, ys, rfl, ⟨keep h4'.1 hb, h4'.2⟩, h5', h6'.mono go⟩
      | pur b n => exact q2
      | exc b dd d => obtain ⟨h3, v, h4', h5'⟩ := q2; exact ⟨h3, v, go _ _ h4', h5'.mono go⟩
      | oat b ds =>
        obtain ⟨h3, h4', ys, h5', h6'⟩ := q2
        subst h3
        have hb : b ≠ a := fun z => by
          rw [z] at q1
          exact hji (e.dis j i _ _ a hj h rfl rfl q1 h1)
        exact ⟨rfl, ⟨keep h4'.1 hb, h4'.2⟩, ys, h5', h6'.mono go⟩
  · rcases set_get h1' with ⟨rfl, rfl, _⟩ | ⟨_, h1'⟩
    · cases o1
    · rcases set_get h2' with ⟨rfl, rfl, _⟩ | ⟨_, h2'⟩
      · cases o2
      · exact e.dis j k s1 s2 b h1' h2' o1 o2 g1 g2
/-- the base goes back to an elder one -/
theorem Env.rebase {B : Hp} (e : Env { β with B := B } T A σ H Γ) (g : Same β.B B) : Env β T A σ H Γ :=
  ⟨e.len, fun i s h => by
    obtain ⟨o, h1, h2⟩ := e.ok i s h
    refine ⟨o, h1, ?_⟩
    cases s <;> exact h2, e.dis, fun b x z => e.base _ _ (g _ _ z), e.sub, e.zs, e.live, e.dj, e.all⟩
theorem Env.tobase (e : Env β T A σ H Γ) : Env { β with B := Off (T ++ A) H } T A σ H Γ :=
  ⟨e.len, fun i s h => by
    obtain ⟨o, h1, h2⟩ := e.ok i s h
    refine ⟨o, h1, ?_⟩
    cases s <;> exact h2, e.dis, Same.refl _, e.sub, e.zs, e.live, e.dj, e.all⟩
end
end Kr
/-! Kr2: weakest preconditions over data. -/
namespace Kr
open PySem L2
/-- what is wanted of an exception that leaves -/
def Wish (β : Bs) (E : XK) (ex : Addr → D → Prop) : Prop :=
  ∀ (C : Addr) (d : D) (dd : Addr) (v : V) (H' : Hp), ex C d → Same β.B (Off β.A0 H') → Same (Off β.Z β.H0) (Off β.Z H') → (∀ a ∈ β.A0, H' a ≠ none) → Off β.A0 H' dd = some (.xd [(("value" : Str), v)]) → Rp (Off β.A0 H') v d → E (.ref C) (some dd) H'
theorem Wish.mono {β : Bs} {B' : Hp} {E : XK} {ex : Addr → D → Prop} (w : Wish β E ex) (s : Same β.B B') : Wish { β with B := B' } E ex :=
  fun C d dd v H' h g z l k r => w C d dd v H' h (s.trans g) z l k r
/-- the view: strict, without what the slots own; or with it -/
def Vw (f : Bool) (β : Bs) (T A : List Addr) (H : Hp) : Hp := if f = true then Off (T ++ A) H else Off β.A0 H
abbrev Sm (β : Bs) (H H' : Hp) : Prop := Same (Off β.Z H) (Off β.Z H')
section
variable {f : Bool} {β : Bs} {T A : List Addr} {σ : L2.St} {H H' : Hp} {G : List Sl}
theorem Env.vwf (e : Env β T A σ H G) (g : Sm β H H') : Same (Vw f β T A H) (Vw f β T A H') := by
  cases f with
  | true => exact e.vw g
  | false => exact e.vw0 g
theorem vw_in : Same (Vw f β T A H) H := by
  cases f with
  | true => exact off_in
  | false => exact off_in
theorem Env.upf (e : Env β T A σ H G) : Same (Off (T ++ A) H) (Vw f β T A H) := by
  cases f with
  | true => exact Same.refl _
  | false => exact e.up
theorem Env.dnf (e : Env β T A σ H G) : Same (Vw f β T A H) (Off β.A0 H) := by
  cases f with
  | true => exact e.up
  | false => exact Same.refl _
theorem Env.newf (e : Env β T A σ H G) {p : Addr} {o : HO} (hp : H p = none) : Vw f β T A (upd H p o) p = some o := by
  cases f with
  | true => exact off_of (fun z => e.live p z hp) upd_same
  | false => exact off_of (fun z => e.live p (e.a0A p z) hp) upd_same
end
def dE (E : XK) (ex : Addr → D → Prop) (f : Bool) (te : TE) (G : List Sl) (Q : D → List Sl → Prop) : Prop :=
  ∀ (β : Bs) (T A : List Addr) (σ : L2.St) (H : Hp) (Qv : VK), Env β T A σ H G → Wish β E ex →
    (∀ d v H' G', Q d G' → Env β T A σ H' G' → Sm β H H' → Rp (Vw f β T A H') v d → Qv v H') → te σ H Qv
def dT (E : XK) (ex : Addr → D → Prop) (te : TT) (G : List Sl) (Q : Bool → List Sl → Prop) : Prop :=
  ∀ (β : Bs) (T A : List Addr) (σ : L2.St) (H : Hp) (Qv : Bool → Hp → Prop), Env β T A σ H G → Wish β E ex →
    (∀ b H' G', Q b G' → Env β T A σ H' G' → Sm β H H' → Qv b H') → te σ H Qv
def dA (E : XK) (ex : Addr → D → Prop) (f : Bool) (te : TA) (G : List Sl) (Q : List D → List Sl → Prop) : Prop :=
  ∀ (β : Bs) (T A : List Addr) (σ : L2.St) (H : Hp) (Qv : List V → Hp → Prop), Env β T A σ H G → Wish β E ex →
    (∀ ds vs H' G', Q ds G' → Env β T A σ H' G' → Sm β H H' → RpA (Vw f β T A H') vs ds → Qv vs H') → te σ H Qv
/-- a new list -/
def dL (E : XK) (ex : Addr → D → Prop) (te : TE) (G : List Sl) (Q : List D → List Sl → Prop) : Prop :=
  ∀ (β : Bs) (T A : List Addr) (σ : L2.St) (H : Hp) (Qv : VK), Env β T A σ H G → Wish β E ex →
    (∀ ds p xs H' G', Q ds G' → p ∉ T ++ A → β.H0 p = none → Env β (p :: T) A σ H' G' → Sm β H H' → H' p = some (.lst xs) → RpA (Off ((p :: T) ++ A) H') xs ds → Qv (V.ref p) H') → te σ H Qv
/-- an optional end of a slice -/
def dO (E : XK) (ex : Addr → D → Prop) (te : TO) (G : List Sl) (Q : Option Int → List Sl → Prop) : Prop :=
  ∀ (β : Bs) (T A : List Addr) (σ : L2.St) (H : Hp) (Qv : Option Int → Hp → Prop), Env β T A σ H G → Wish β E ex →
    (∀ b H' G', Q b G' → Env β T A σ H' G' → Sm β H H' → Qv b H') → te σ H Qv
structure Po where
  nx : List Sl → Prop
  bk : List Sl → Prop
  ct : List Sl → Prop
  rt : D → List Sl → Prop
def dS (E : XK) (ex : Addr → D → Prop) (t : TS) (G : List Sl) (P : Po) : Prop :=
  ∀ (β : Bs) (A : List Addr) (σ : L2.St) (H : Hp) (D : Ends), Env β [] A σ H G → Wish β E ex →
    (∀ A' σ' H' G', P.nx G' → Env β [] A' σ' H' G' → D.nx σ' H') → (∀ A' σ' H' G', P.bk G' → Env β [] A' σ' H' G' → D.bk σ' H') → (∀ A' σ' H' G', P.ct G' → Env β [] A' σ' H' G' → D.ct σ' H') →
    (∀ d v A' σ' H' G', P.rt d G' → Env β [] A' σ' H' G' → Rp (Off β.A0 H') v d → D.rt v H') → t D σ H
section
variable {E : XK} {ex : Addr → D → Prop} {f f1 f2 : Bool} {G : List Sl} {te ta tb : TE} {Q : D → List Sl → Prop} {QB : Bool → List Sl → Prop} {QA : List D → List Sl → Prop} {QO : Option Int → List Sl → Prop} {P : Po} {i : Nat} {d : D} {tt t1 t2 : TT} {ts tu : TS} {tr : TA}
theorem dE.imp {Q' : D → List Sl → Prop} (h : dE E ex f te G Q) (q : ∀ d G', Q d G' → Q' d G') : dE E ex f te G Q' :=
  fun β T A σ H Qv en w k => h β T A σ H Qv en w fun d v H' G' z => k d v H' G' (q _ _ z)
theorem dT.imp {Q' : Bool → List Sl → Prop} (h : dT E ex tt G QB) (q : ∀ d G', QB d G' → Q' d G') : dT E ex tt G Q' :=
  fun β T A σ H Qv en w k => h β T A σ H Qv en w fun d H' G' z => k d H' G' (q _ _ z)
theorem dA.imp {Q' : List D → List Sl → Prop} (h : dA E ex f tr G QA) (q : ∀ d G', QA d G' → Q' d G') : dA E ex f tr G Q' :=
  fun β T A σ H Qv en w k => h β T A σ H Qv en w fun d v H' G' z => k d v H' G' (q _ _ z)
theorem dL.imp {Q' : List D → List Sl → Prop} (h : dL E ex te G QA) (q : ∀ d G', QA d G' → Q' d G') : dL E ex te G Q' :=
  fun β T A σ H Qv en w k => h β T A σ H Qv en w fun d p xs H' G' z => k d p xs H' G' (q _ _ z)
theorem dS.imp {P' : Po} (h : dS E ex ts G P) (q1 : ∀ G', P.nx G' → P'.nx G') (q2 : ∀ G', P.bk G' → P'.bk G') (q3 : ∀ G', P.ct G' → P'.ct G') (q4 : ∀ d G', P.rt d G' → P'.rt d G') : dS E ex ts G P' :=
  fun β A σ H D en w k1 k2 k3 k4 => h β A σ H D en w (fun A' σ' H' G' z => k1 _ _ _ _ (q1 _ z)) (fun A' σ' H' G' z => k2 _ _ _ _ (q2 _ z)) (fun A' σ' H' G' z => k3 _ _ _ _ (q3 _ z)) fun d v A' σ' H' G' z => k4 _ _ _ _ _ _ (q4 _ _ z)
/-! ### leaves -/
theorem dE_c {v : V} (hv : ∀ H, Rp H v d) (q : Q d G) : dE E ex f (tC v) G Q := fun _ _ _ _ H _ en _ k => k d v H G q en (Same.refl _) (hv _)
theorem dE_int {n : Int} (q : Q (.int n) G) : dE E ex f (tC (.int n)) G Q := dE_c (fun _ => .int n) q
theorem dE_str {n : Str} (q : Q (.str n) G) : dE E ex f (tC (.str n)) G Q := dE_c (fun _ => .str n) q
theorem dE_bl {n : Bool} (q : Q (.bl n) G) : dE E ex f (tC (.bl n)) G Q := dE_c (fun _ => .bl n) q
theorem dE_non (q : Q .non G) : dE E ex f (tC .non) G Q := dE_c (fun _ => .non) q
theorem dE_var (h : G[i]? = some (.imm d)) (q : Q d G) : dE E ex f (tVar i) G Q := fun β T A σ H Qv en _ k => by
  obtain ⟨v, h1, r⟩ := en.get h
  exact ⟨v, h1, k d v H G q en (Same.refl _) (r.mono en.upf)⟩
/-- an owned list, looked at -/
theorem dE_own {ds : List D} (h : G[i]? = some (.own ds)) (q : Q (.lst ds) G) : dE E ex false (tVar i) G Q := fun β T A σ H Qv en _ k => by
  obtain ⟨p, xs, h1, hA, h0, hp, r⟩ := en.at h
  exact ⟨_, h1, k (.lst ds) _ H G q en (Same.refl _) (.lst (off_of h0.1 hp) (r.mono en.up))⟩
/-! ### a one-place and a two-place operation -/
/-- what an operation on values gives of data: a value that hangs on no heap -/
def OpD (r : R2) (x y z : D) : Prop := ∀ (H F : Hp) (u v : V) (k : VK), Same F H → Rp F u x → Rp F v y → (∀ w, (∀ F', Rp F' w z) → k w H) → r u v H k
def UnD (r : V → Hp → VK → Prop) (x z : D) : Prop := ∀ (H F : Hp) (u : V) (k : VK), Same F H → Rp F u x → (∀ w, (∀ F', Rp F' w z) → k w H) → r u H k
def CaD (r : List V → Hp → VK → Prop) (xs : List D) (z : D) : Prop := ∀ (H F : Hp) (us : List V) (k : VK), Same F H → RpA F us xs → (∀ w, (∀ F', Rp F' w z) → k w H) → r us H k
def McD (r : V → List V → Hp → VK → Prop) (x : D) (xs : List D) (z : D) : Prop := ∀ (H F : Hp) (u : V) (us : List V) (k : VK), Same F H → Rp F u x → RpA F us xs → (∀ w, (∀ F', Rp F' w z) → k w H) → r u us H k
theorem dE_op2 {r : R2} (h : dE E ex false ta G fun x G1 => dE E ex false tb G1 fun y G2 => ∃ z, OpD r x y z ∧ Q z G2) : dE E ex f (tOp r ta tb) G Q := fun β T A σ H Qv en w k => by
  refine h β T A σ H _ en w fun x u H1 G1 h1 en1 s1 r1 => ?_
  refine h1 β T A σ H1 _ en1 w fun y v H2 G2 ⟨z, o, q⟩ en2 s2 r2 => ?_
  exact o H2 _ u v Qv vw_in (r1.mono (en1.vwf s2)) r2 fun w' hw => k z w' H2 G2 q en2 (s1.trans s2) (hw _)
theorem dE_un {r : V → Hp → VK → Prop} (h : dE E ex false ta G fun x G1 => ∃ z, UnD r x z ∧ Q z G1) : dE E ex f (tUn r ta) G Q := fun β T A σ H Qv en w k => by
  refine h β T A σ H _ en w fun x u H1 G1 ⟨z, o, q⟩ en1 s1 r1 => ?_
  exact o H1 _ u Qv vw_in r1 fun w' hw => k z w' H1 G1 q en1 s1 (hw _)
/-- a built-in on data: a value that hangs on no heap -/
theorem dE_cb {r : List V → Hp → VK → Prop} (h : dA E ex false tr G fun xs G1 => ∃ z, CaD r xs z ∧ Q z G1) : dE E ex f (tCB r tr) G Q := fun β T A σ H Qv en w k => by
  refine h β T A σ H _ en w fun x u H1 G1 ⟨z, o, q⟩ en1 s1 r1 => ?_
  exact o H1 _ u Qv vw_in r1 fun w' hw => k z w' H1 G1 q en1 s1 (hw _)
/-! ### tests, and, or, not, if -/
theorem dT_test (h : dE E ex false te G fun d G' => ∃ b, d = .bl b ∧ QB b G') : dT E ex (tTest te) G QB := fun β T A σ H Qv en w k => by
  refine h β T A σ H _ en w fun x u H1 G1 ⟨b, e, q⟩ en1 s1 r1 => ?_
  subst e
  cases r1
  exact ⟨b, rfl, k b H1 G1 q en1 s1⟩
theorem dT_B (h : dE E ex false te G fun d G' => ∃ b, d = .bl b ∧ QB b G') : dT E ex (tB te) G QB := fun β T A σ H Qv en w k => by
  refine h β T A σ H _ en w fun x u H1 G1 ⟨b, e, q⟩ en1 s1 r1 => ?_
  subst e
  cases r1
  exact ⟨b, rfl, k b H1 G1 q en1 s1⟩
theorem dT_yes (q : QB true G) : dT E ex tYes G QB := fun β T A σ H Qv en w k => k true H G q en (Same.refl _)
theorem dT_and (h : dT E ex t1 G fun b G' => (b = true → dT E ex t2 G' QB) ∧ (b = false → QB false G')) : dT E ex (tAnd t1 t2) G QB := fun β T A σ H Qv en w k => by
  refine h β T A σ H _ en w fun b H1 G1 ⟨q1, q2⟩ en1 s1 => ?_
  cases b with
  | true =>
    show t2 σ H1 Qv
    exact q1 rfl β T A σ H1 Qv en1 w fun b H2 G2 q en2 s2 => k b H2 G2 q en2 (s1.trans s2)
  | false => exact k false H1 G1 (q2 rfl) en1 s1
theorem dT_or (h : dT E ex t1 G fun b G' => (b = true → QB true G') ∧ (b = false → dT E ex t2 G' QB)) : dT E ex (tOr t1 t2) G QB := fun β T A σ H Qv en w k => by
  refine h β T A σ H _ en w fun b H1 G1 ⟨q1, q2⟩ en1 s1 => ?_
  cases b with
  | true => exact k true H1 G1 (q1 rfl) en1 s1
  | false =>
    show t2 σ H1 Qv
    exact q2 rfl β T A σ H1 Qv en1 w fun b H2 G2 q en2 s2 => k b H2 G2 q en2 (s1.trans s2)
theorem dT_not (h : dT E ex t1 G fun b G' => QB (!b) G') : dT E ex (tNot t1) G QB := fun β T A σ H Qv en w k =>
  h β T A σ H _ en w fun b H1 G1 q en1 s1 => k _ H1 G1 q en1 s1
theorem dE_and (h : dE E ex false ta G fun d G' => ∃ b, d = .bl b ∧ (b = true → dE E ex f tb G' Q) ∧ (b = false → Q (.bl false) G')) : dE E ex f (tAndV ta tb) G Q := fun β T A σ H Qv en w k => by
  refine h β T A σ H _ en w fun d u H1 G1 ⟨b, e, q1, q2⟩ en1 s1 r1 => ?_
  subst e
  cases r1
  refine ⟨b, rfl, ?_⟩
  cases b with
  | true =>
    show tb σ H1 Qv
    exact q1 rfl β T A σ H1 Qv en1 w fun d v H2 G2 q en2 s2 r2 => k d v H2 G2 q en2 (s1.trans s2) r2
  | false => exact k (.bl false) (.bl false) H1 G1 (q2 rfl) en1 s1 (.bl _)
theorem dE_or (h : dE E ex false ta G fun d G' => ∃ b, d = .bl b ∧ (b = true → Q (.bl true) G') ∧ (b = false → dE E ex f tb G' Q)) : dE E ex f (tOrV ta tb) G Q := fun β T A σ H Qv en w k => by
  refine h β T A σ H _ en w fun d u H1 G1 ⟨b, e, q1, q2⟩ en1 s1 r1 => ?_
  subst e
  cases r1
  refine ⟨b, rfl, ?_⟩
  cases b with
  | true => exact k (.bl true) (.bl true) H1 G1 (q1 rfl) en1 s1 (.bl _)
  | false =>
    show tb σ H1 Qv
    exact q2 rfl β T A σ H1 Qv en1 w fun d v H2 G2 q en2 s2 r2 => k d v H2 G2 q en2 (s1.trans s2) r2
theorem dE_not (h : dE E ex false ta G fun d G' => ∃ b, d = .bl b ∧ Q (.bl (!b)) G') : dE E ex f (tNotV ta) G Q := fun β T A σ H Qv en w k => by
  refine h β T A σ H _ en w fun d u H1 G1 ⟨b, e, q⟩ en1 s1 r1 => ?_
  subst e
  cases r1
  exact ⟨b, rfl, k _ _ H1 G1 q en1 s1 (.bl _)⟩
theorem dE_if (h : dT E ex tt G fun b G' => (b = true → dE E ex f ta G' Q) ∧ (b = false → dE E ex f tb G' Q)) : dE E ex f (tIf tt ta tb) G Q := fun β T A σ H Qv en w k => by
  refine h β T A σ H _ en w fun b H1 G1 ⟨q1, q2⟩ en1 s1 => ?_
  cases b with
  | true =>
    show ta σ H1 Qv
    exact q1 rfl β T A σ H1 Qv en1 w fun d v H2 G2 q en2 s2 r2 => k d v H2 G2 q en2 (s1.trans s2) r2
  | false =>
    show tb σ H1 Qv
    exact q2 rfl β T A σ H1 Qv en1 w fun d v H2 G2 q en2 s2 r2 => k d v H2 G2 q en2 (s1.trans s2) r2
/-- a < b < c -/
theorem dE_chain {r r' : R2} {tc : TE} (h : dE E ex false ta G fun x G1 => dE E ex false tb G1 fun y G2 => ∃ b, OpD r x y (.bl b) ∧ (b = true → dE E ex false tc G2 fun z G3 => ∃ w, OpD r' y z w ∧ Q w G3) ∧ (b = false → Q (.bl false) G2)) : dE E ex f (tChain r r' ta tb tc) G Q := fun β T A σ H Qv en w k => by
  refine h β T A σ H _ en w fun x u H1 G1 h1 en1 s1 r1 => ?_
  refine h1 β T A σ H1 _ en1 w fun y v H2 G2 ⟨b, o, q1, q2⟩ en2 s2 r2 => ?_
  refine o H2 _ u v _ vw_in (r1.mono (en1.vwf s2)) r2 fun w' hw => ?_
  cases hw H2
  refine ⟨b, rfl, ?_⟩
  cases b with
  | true =>
    show tc σ H2 _
    refine q1 rfl β T A σ H2 _ en2 w fun z c H3 G3 ⟨w2, o2, q⟩ en3 s3 r3 => ?_
    exact o2 H3 _ v c Qv vw_in (r2.mono (en2.vwf s3)) r3 fun w' hw => k w2 w' H3 G3 q en3 ((s1.trans s2).trans s3) (hw _)
  | false => exact k _ _ H2 G2 (q2 rfl) en2 (s1.trans s2) (.bl _)
/-! ### arguments, displays -/
theorem dA_nil (q : QA [] G) : dA E ex f tNil G QA := fun β T A σ H Qv en w k => k [] [] H G q en (Same.refl _) .nil
theorem dA_cons (h : dE E ex f te G fun d G1 => dA E ex f tr G1 fun ds G2 => QA (d :: ds) G2) : dA E ex f (tCons te tr) G QA := fun β T A σ H Qv en w k => by
  refine h β T A σ H _ en w fun d v H1 G1 h1 en1 s1 r1 => ?_
  exact h1 β T A σ H1 _ en1 w fun ds vs H2 G2 q en2 s2 r2 => k (d :: ds) (v :: vs) H2 G2 q en2 (s1.trans s2) (.cons (r1.mono (en1.vwf s2)) r2)
theorem vw_new {β : Bs} {T A : List Addr} {H : Hp} {p : Addr} {o : HO} (hp : H p = none) : Same (Vw f β T A H) (Vw f β T A (upd H p o)) := by
  cases f with
  | true => exact off_new hp
  | false => exact off_new hp
theorem dE_tup (h : dA E ex f tr G fun ds G1 => ds.length ≤ 1000 ∧ Q (.tup ds) G1) : dE E ex f (tTup tr) G Q := fun β T A σ H Qv en w k => by
  refine h β T A σ H _ en w fun ds vs H1 G1 ⟨hl, q⟩ en1 s1 r1 => ?_
  refine ⟨by rw [r1.length, sizeLine_eq]; omega, fun p hp => ?_⟩
  exact k _ _ _ G1 q (en1.grow (same_new hp)) (s1.trans (off_new hp)) (.tup (en1.newf hp) (r1.mono (vw_new hp)))
theorem dL_lst (h : dA E ex true tr G fun ds G1 => ds.length ≤ 1000 ∧ QA ds G1) : dL E ex (tLst tr) G QA := fun β T A σ H Qv en w k => by
  refine h β T A σ H _ en w fun ds vs H1 G1 ⟨hl, q⟩ en1 s1 r1 => ?_
  refine ⟨by rw [r1.length, sizeLine_eq]; omega, fun p hp => ?_⟩
  have hpA : p ∉ T ++ A := fun z => en1.live p z hp
  exact k _ p vs _ G1 q hpA (en1.fresh0 hp) (en1.tmp hp) (s1.trans (off_new hp)) upd_same (r1.mono (off_hid hp))
/-- a list display as a value, whatever it holds -/
theorem dE_lst (h : dA E ex f tr G fun ds G1 => ds.length ≤ 1000 ∧ Q (.lst ds) G1) : dE E ex f (tLst tr) G Q := fun β T A σ H Qv en w k => by
  refine h β T A σ H _ en w fun ds vs H1 G1 ⟨hl, q⟩ en1 s1 r1 => ?_
  refine ⟨by rw [r1.length, sizeLine_eq]; omega, fun p hp => ?_⟩
  exact k _ _ _ G1 q (en1.grow (same_new hp)) (s1.trans (off_new hp)) (.lst (en1.newf hp) (r1.mono (vw_new hp)))
/-- a new list as a value -/
theorem dE_L (h : dL E ex te G fun ds G1 => Q (.lst ds) G1) : dE E ex f te G Q := fun β T A σ H Qv en w k =>
  h β T A σ H Qv en w fun ds p xs H1 G1 q hp h0 en1 s1 e1 r1 => by
    have go : Same (Off ((p :: T) ++ A) H1) (Off (T ++ A) H1) := off_le fun a ha => List.mem_cons_of_mem _ ha
    exact k _ _ _ G1 q en1.untmp s1 ((Rp.lst (off_of hp e1) (r1.mono go)).mono en1.untmp.upf)
/-! ### statements -/
theorem dS_seq (h : dS E ex ts G { P with nx := fun G' => dS E ex tu G' P }) : dS E ex (tSeq ts tu) G P := fun β A σ H D en w k1 k2 k3 k4 =>
  h β A σ H { D with nx := tu D } en w (fun A' σ' H' G' q en' => q β A' σ' H' D en' w k1 k2 k3 k4) k2 k3 k4
theorem dS_next (q : P.nx G) : dS E ex tNext G P := fun β A σ H D en w k1 _ _ _ => k1 A σ H G q en
theorem dS_brk (q : P.bk G) : dS E ex tBreak G P := fun β A σ H D en w _ k2 _ _ => k2 A σ H G q en
theorem dS_ct (q : P.ct G) : dS E ex tCont G P := fun β A σ H D en w _ _ k3 _ => k3 A σ H G q en
theorem dS_set (h : dE E ex true te G fun d G' => P.nx (G'.set i (.imm d))) : dS E ex (tAsg te (gName i)) G P := fun β A σ H D en w k1 _ _ _ =>
  h β [] A σ H _ en w fun d v H1 G1 q en1 s1 r1 => k1 A _ H1 _ q (en1.set r1)
theorem dS_setL (h : dL E ex te G fun ds G' => P.nx (G'.set i (.own ds))) : dS E ex (tAsg te (gName i)) G P := fun β A σ H D en w k1 _ _ _ =>
  h β [] A σ H _ en w fun ds p xs H1 G1 q hp h0 en1 s1 e1 r1 => k1 (p :: A) _ H1 _ q (en1.own e1 hp h0 r1)
theorem dS_drop (h : dE E ex false te G fun d G' => P.nx G') : dS E ex (tDrop te) G P := fun β A σ H D en w k1 _ _ _ =>
  h β [] A σ H _ en w fun d v H1 G1 q en1 s1 r1 => k1 A _ H1 _ q en1
theorem dS_ret (h : dE E ex false te G fun d G' => P.rt d G') : dS E ex (tRet te) G P := fun β A σ H D en w _ _ _ k4 =>
  h β [] A σ H _ en w fun d v H1 G1 q en1 s1 r1 => k4 d v A σ H1 G1 q en1 r1
theorem dS_retN (h : P.rt .non G) : dS E ex tRetN G P := fun β A σ H D en w _ _ _ k4 => k4 .non .non A σ H G h en .non
theorem dS_if (h : dT E ex tt G fun b G' => (b = true → dS E ex ts G' P) ∧ (b = false → dS E ex tu G' P)) : dS E ex (tIfS tt ts tu) G P := fun β A σ H D en w k1 k2 k3 k4 => by
  refine h β [] A σ H _ en w fun b H1 G1 ⟨q1, q2⟩ en1 s1 => ?_
  cases b with
  | true =>
    show ts D σ H1
    exact q1 rfl β A σ H1 D en1 w k1 k2 k3 k4
  | false =>
    show tu D σ H1
    exact q2 rfl β A σ H1 D en1 w k1 k2 k3 k4
/-- a list of one's own is frozen from here on -/
theorem dS_freeze {ds : List D} (i : Nat) (hi : G[i]? = some (.own ds)) (h : dS E ex ts (G.set i (.imm (.lst ds))) P) : dS E ex ts G P := fun β A σ H D en w k1 k2 k3 k4 => by
  obtain ⟨A', en', _⟩ := en.freeze hi
  exact h β A' σ H D en' w k1 k2 k3 k4
theorem dS_any (i : Nat) (h : dS E ex ts (G.set i .any) P) : dS E ex ts G P := fun β A σ H D en w k1 k2 k3 k4 => h β A σ H D en.any w k1 k2 k3 k4
/-- xs.append(e), xs one's own -/
theorem dS_append {K : PySem.W.Frag} (h : dA E ex true tr G fun es G' => ∃ d ds, es = [d] ∧ G'[i]? = some (.own ds) ∧ ds.length < 1000000 ∧ P.nx (G'.set i (.own (ds ++ [d])))) (h0 : ∃ ds, G[i]? = some (.own ds)) :
    dS E ex (tDrop (tBM K "list" rAppend (tVar i) tr)) G P := fun β A σ H Dn en w k1 _ _ _ => by
  obtain ⟨ds0, h0⟩ := h0
  obtain ⟨p, xs, h1, hA, hn, hp, r⟩ := en.at h0
  refine ⟨_, h1, .inl ⟨rfl, xs, .inl (.inl hp)⟩, ?_⟩
  refine h β [] A σ H _ en w fun es vs H1 G1 ⟨d, ds, ee, hi, hl, q⟩ en1 s1 r1 => ?_
  subst ee
  cases r1 with
  | cons rv rn =>
    cases rn
    obtain ⟨p', xs', h1', hA', hn', hp', r'⟩ := en1.at hi
    rw [h1] at h1'
    cases h1'
    refine ⟨p, xs', _, rfl, rfl, hp', ?_, ?_⟩
    · rw [r'.length, sizeLine_eq]; omega
    · exact k1 A σ _ _ q (en1.put hi h1 hA' hn' (r'.append (.one rv)))
end
end Kr
/-! Kr3: targets, loops, comprehensions, calls. -/
namespace Kr
open PySem L2
/-- a list and its slots forgotten -/
def wipeG (G : List Sl) : List Nat → List Sl
  | [] => G
  | v :: vs => (wipeG G vs).set v .any
section
variable {β : Bs} {T A : List Addr} {σ σ' : L2.St} {H H' : Hp} {G : List Sl}
theorem Env.wipe (e : Env β T A σ H G) : ∀ vs : List Nat, Env β T A (L2.wipe σ vs) H (wipeG G vs)
  | [] => e
  | v :: vs => (Env.wipe e vs).forget none
theorem wipeG_length : ∀ vs : List Nat, (wipeG G vs).length = G.length
  | [] => rfl
  | v :: vs => by
    show ((wipeG G vs).set v .any).length = _
    rw [List.length_set, wipeG_length vs]
theorem wipeG_get : ∀ {vs : List Nat} {i : Nat} {s : Sl}, (wipeG G vs)[i]? = some s → s = .any ∨ (i ∉ vs ∧ G[i]? = some s)
  | [], i, s, h => .inr ⟨by simp, h⟩
  | v :: vs, i, s, h => by
    rcases set_get (show ((wipeG G vs).set v .any)[i]? = some s from h) with ⟨_, e, _⟩ | ⟨hi, h⟩
    · exact .inl e
    · rcases wipeG_get h with e | ⟨h1, h2⟩
      · exact .inl e
      · exact .inr ⟨fun z => (List.mem_cons.mp z).elim hi h1, h2⟩
theorem wipe_get : ∀ {vs : List Nat} {i : Nat}, i ∉ vs → (L2.wipe σ vs)[i]? = σ[i]?
  | [], _, _ => rfl
  | v :: vs, i, h => by
    show ((L2.wipe σ vs).set v none)[i]? = _
    rw [List.getElem?_set_ne (fun (z : v = i) => h (by rw [z]; exact List.mem_cons_self))]
    exact wipe_get fun z => h (List.mem_cons_of_mem _ z)
/-- out of a block: the slots outside as they were, its own forgotten -/
theorem Env.unwipe (e : Env β T A σ' H G) {vs : List Nat} (hw : L2.wipe σ' vs = L2.wipe σ vs) : Env β T A σ H (wipeG G vs) := by
  have gt : ∀ {i : Nat}, i ∉ vs → σ'[i]? = σ[i]? := fun {i} h => by rw [← wipe_get h, hw, wipe_get h]
  have hl : σ.length = σ'.length := by rw [← wipe_length σ vs, ← hw, wipe_length]
  refine ⟨by rw [wipeG_length, hl]; exact e.len, fun i s h => ?_, fun i j s s' a h1 h2 o1 o2 g1 g2 => ?_, e.base, e.sub, e.zs, e.live, e.dj, e.all⟩
  · rcases wipeG_get h with z | ⟨z1, z2⟩
    · subst z
      have hi : i < σ.length := by
        have := (List.getElem?_eq_some_iff.mp h).1
        rw [wipeG_length] at this
        rw [hl, e.len]; exact this
      exact ⟨σ[i], List.getElem?_eq_getElem hi, trivial⟩
    · obtain ⟨o, q1, q2⟩ := e.ok i s z2
      exact ⟨o, by rw [← gt z1]; exact q1, q2⟩
  · rcases wipeG_get h1 with z | ⟨z1, z2⟩
    · rw [z] at o1; cases o1
    · rcases wipeG_get h2 with y | ⟨y1, y2⟩
      · rw [y] at o2; cases o2
      · exact e.dis i j s s' a z2 y2 o1 o2 (by rw [gt z1]; exact g1) (by rw [gt y1]; exact g2)
end
/-! ### targets -/
def dG (g : TG) (vs : List Nat) (d : D) (G : List Sl) (Q : List Sl → Prop) : Prop :=
  ∀ (β : Bs) (T A : List Addr) (σ : L2.St) (H : Hp) (v : V) (Qv : L2.St → Hp → Prop), Env β T A σ H G → Rp (Off (T ++ A) H) v d →
    (∀ σ' G', Q G' → Env β T A σ' H G' → L2.wipe σ' vs = L2.wipe σ vs → Qv σ' H) → g v σ H Qv
def dGs (g : TGs) (vs : List Nat) (ds : List D) (G : List Sl) (Q : List Sl → Prop) : Prop :=
  ∀ (β : Bs) (T A : List Addr) (σ : L2.St) (H : Hp) (us : List V) (Qv : L2.St → Hp → Prop), Env β T A σ H G → RpA (Off (T ++ A) H) us ds →
    (∀ σ' G', Q G' → Env β T A σ' H G' → L2.wipe σ' vs = L2.wipe σ vs → Qv σ' H) → g us σ H Qv
theorem wipe_set {σ : L2.St} {i : Nat} {o : Option V} : ∀ {vs : List Nat}, i ∈ vs → L2.wipe (σ.set i o) vs = L2.wipe σ vs
  | v :: vs, h => by
    show (L2.wipe (σ.set i o) vs).set v none = (L2.wipe σ vs).set v none
    by_cases hi : i ∈ vs
    · rw [wipe_set hi]
    · have e : i = v := by
        rcases List.mem_cons.mp h with h | h
        · exact h
        · exact absurd h hi
      subst e
      refine List.ext_getElem? fun j => ?_
      by_cases hj : i = j
      · subst hj
        have hl : (L2.wipe (σ.set i o) vs).length = (L2.wipe σ vs).length := by rw [wipe_length, wipe_length, List.length_set]
        by_cases hb : i < (L2.wipe σ vs).length
        · rw [List.getElem?_set_self (by rw [hl]; exact hb), List.getElem?_set_self hb]
        · rw [List.getElem?_eq_none (by rw [List.length_set, hl]; omega), List.getElem?_eq_none (by rw [List.length_set]; omega)]
      · rw [List.getElem?_set_ne hj, List.getElem?_set_ne hj]
        by_cases hv : j ∈ vs
        · have key : ∀ {τ : L2.St} {ws : List Nat}, j ∈ ws → j < τ.length → (L2.wipe τ ws)[j]? = some none := fun {τ ws} => by
            intro hm hl
            induction ws with
            | nil => cases hm
            | cons w ws ih =>
              show ((L2.wipe τ ws).set w none)[j]? = _
              by_cases hw : w = j
              · subst hw
                exact List.getElem?_set_self (by rw [wipe_length]; exact hl)
              · rw [List.getElem?_set_ne hw]
                rcases List.mem_cons.mp hm with q | q
                · exact absurd q.symm hw
                · exact ih q
          by_cases hb : j < σ.length
          · rw [key hv (by rw [List.length_set]; exact hb), key hv hb]
          · rw [List.getElem?_eq_none (by rw [wipe_length, List.length_set]; omega), List.getElem?_eq_none (by rw [wipe_length]; omega)]
        · rw [wipe_get hv, wipe_get hv, List.getElem?_set_ne hj]
section
variable {G : List Sl} {Q : List Sl → Prop} {vs : List Nat} {i n : Nat} {d : D} {ds : List D} {g : TG} {gs : TGs} {K : PySem.W.Frag}
theorem dG_name (hi : i ∈ vs) (q : Q (G.set i (.imm d))) : dG (gName i) vs d G Q := fun β T A σ H v Qv en r k => k _ _ q (en.set r) (wipe_set hi)
theorem dGs_nil (q : Q G) : dGs gNil vs [] G Q := fun β T A σ H us Qv en r k => by
  cases r
  exact ⟨rfl, k σ G q en rfl⟩
theorem dGs_cons (h : dG g vs d G fun G1 => dGs gs vs ds G1 Q) : dGs (gCons g gs) vs (d :: ds) G Q := fun β T A σ H us Qv en r k => by
  cases r with
  | cons r1 r2 =>
    exact ⟨_, _, rfl, h β T A σ H _ _ en r1 fun σ1 G1 h1 en1 w1 => h1 β T A σ1 H _ Qv en1 r2 fun σ2 G2 q en2 w2 => k σ2 G2 q en2 (w2.trans w1)⟩
theorem dG_tup (hn : ds.length = n) (h : dGs gs vs ds G Q) : dG (gTup K n gs) vs (.tup ds) G Q := fun β T A σ H v Qv en r k => by
  obtain ⟨a, xs, rfl, hs, r2, _⟩ := (show ∃ a xs, v = V.ref a ∧ SqT K H a xs ∧ RpA (Off (T ++ A) H) xs ds ∧ True by
    cases r with
    | tup h r => exact ⟨_, _, rfl, .inl (.inl (off_some h).2), r, trivial⟩)
  exact ⟨a, xs, rfl, hs, by rw [r2.length]; exact hn, h β T A σ H xs Qv en r2 k⟩
end
/-- a, b = e (e a tuple) -/
theorem dS_unpack {E : XK} {ex : Addr → D → Prop} {G : List Sl} {P : Po} {te : TE} {g : TG} (vs : List Nat) (h : dE E ex true te G fun d G' => dG g vs d G' P.nx) : dS E ex (tAsg te g) G P := fun β A σ H D en w k1 _ _ _ =>
  h β [] A σ H _ en w fun d v H1 G1 q en1 s1 r1 => q β [] A σ H1 v _ en1 r1 fun σ' G' q' en' _ => k1 A σ' H1 G' q' en'
/-! ### walks -/
/-- J walks the data ds, while what F tells stands -/
structure DW (F : Hp) (J : It) (ds : List D) : Prop where
  go : ∀ i H, i < ds.length → Same F H → J.go i H
  stop : ∀ H, Same F H → J.stop ds.length H
  yld : ∀ i H x H', i < ds.length → Same F H → J.yld i H x H' → ∃ d, ds[i]? = some d ∧ Same H H' ∧ ∀ Z : List Addr, (∀ b ∈ Z, H b ≠ none) → Same F (Off Z H) → Rp (Off Z H') x d
def dI (E : XK) (ex : Addr → D → Prop) (wi : TI) (G : List Sl) (Q : List D → List Sl → Prop) : Prop :=
  ∀ (β : Bs) (T A : List Addr) (σ : L2.St) (H : Hp) (R : It → Hp → Prop), Env β T A σ H G → Wish β E ex →
    (∀ ds J H' G', Q ds G' → Env β T A σ H' G' → Sm β H H' → DW (Off (T ++ A) H') J ds → R J H') → wi σ H R
section
variable {K : PySem.W.Frag} {E : XK} {ex : Addr → D → Prop} {f : Bool} {G : List Sl} {te ta tb tl : TE} {Q : D → List Sl → Prop} {QB : Bool → List Sl → Prop} {QA : List D → List Sl → Prop} {P : Po} {i : Nat} {d : D} {tt t1 t2 : TT} {ts tu : TS} {tr : TA} {wi : TI} {g : TG} {vs : List Nat}
/-- the signs of a text -/
def signs (x : Str) : List D := x.cps.toList.map fun c => .str ⟨#[c]⟩
theorem signs_length {x : Str} : (signs x).length = x.cps.size := by unfold signs; rw [List.length_map, Array.length_toList]
theorem dI_str (h : dE E ex false te G fun d G' => ∃ x, d = .str x ∧ QA (signs x) G') : dI E ex (iStr te) G QA := fun β T A σ H R en w k => by
  refine h β T A σ H _ en w fun d v H1 G1 ⟨x, e, q⟩ en1 s1 r1 => ?_
  subst e
  cases r1
  refine ⟨x, rfl, k (signs x) _ H1 G1 q en1 s1 ⟨fun i H hi _ => by rw [signs_length] at hi; exact hi, fun H _ => by rw [signs_length]; exact Nat.le_refl _, fun i H v H' hi _ y => ?_⟩⟩
  obtain ⟨rfl, c, hc, rfl⟩ := y
  refine ⟨.str ⟨#[c]⟩, ?_, Same.refl _, fun Z _ _ => .str _⟩
  unfold signs
  rw [List.getElem?_map, Array.getElem?_toList, hc]
  rfl
theorem dI_list (h : dE E ex true te G fun d G' => ∃ ds, d = .lst ds ∧ QA ds G') : dI E ex (iList K te) G QA := fun β T A σ H R en w k => by
  refine h β T A σ H _ en w fun d v H1 G1 ⟨ds, e, q⟩ en1 s1 r1 => ?_
  subst e
  cases r1 with
  | @lst a xs _ hh r =>
    have hF : (Off (T ++ A) H1) a = some (.lst xs) := hh
    have sq : ∀ {H}, Same (Off (T ++ A) H1) H → SqL K H a xs := fun g => .inl (.inl (g _ _ hF))
    have W := walk_list (K := K) (a := a) (xs := xs)
    refine ⟨a, rfl, ⟨xs, sq off_in⟩, k ds _ H1 G1 q en1 s1 ⟨fun i H hi g => W.goes i H (by rw [r.length]; exact hi) (sq g), fun H g => by rw [← r.length]; exact W.stops H (sq g), fun i H v H' hi g y => ?_⟩⟩
    obtain ⟨rfl, hx⟩ := W.yields i H v H' (by rw [r.length]; exact hi) (sq g) y
    obtain ⟨d, hd, rv⟩ := RpA.getV r hx
    exact ⟨d, hd, Same.refl _, fun Z _ gz => Rp.mono gz rv⟩
theorem dI_tup (h : dE E ex true te G fun d G' => ∃ ds, d = .tup ds ∧ QA ds G') : dI E ex (iTup K te) G QA := fun β T A σ H R en w k => by
  refine h β T A σ H _ en w fun d v H1 G1 ⟨ds, e, q⟩ en1 s1 r1 => ?_
  subst e
  cases r1 with
  | @tup a xs _ hh r =>
    have hF : (Off (T ++ A) H1) a = some (.tup xs) := hh
    have sq : ∀ {H}, Same (Off (T ++ A) H1) H → SqT K H a xs := fun g => .inl (.inl (g _ _ hF))
    have W := walk_tup (K := K) (a := a) (xs := xs)
    refine ⟨a, rfl, ⟨xs, sq off_in⟩, k ds _ H1 G1 q en1 s1 ⟨fun i H hi g => W.goes i H (by rw [r.length]; exact hi) (sq g), fun H g => by rw [← r.length]; exact W.stops H (sq g), fun i H v H' hi g y => ?_⟩⟩
    obtain ⟨rfl, hx⟩ := W.yields i H v H' (by rw [r.length]; exact hi) (sq g) y
    obtain ⟨d, hd, rv⟩ := RpA.getV r hx
    exact ⟨d, hd, Same.refl _, fun Z _ gz => Rp.mono gz rv⟩
/-- 0, 1, .. below n -/
def nats (lo : Int) (n : Nat) : List D := (List.range n).map fun i => .int (lo + (i : Nat))
theorem nats_length {lo : Int} {n : Nat} : (nats lo n).length = n := by unfold nats; rw [List.length_map, List.length_range]
theorem dw_rng {F : Hp} {lo : Int} {n : Nat} : DW F (Itr lo n) (nats lo n) :=
  ⟨fun i H hi _ => by rw [nats_length] at hi; exact hi, fun H _ => by rw [nats_length]; exact Nat.le_refl _, fun i H v H' hi _ y => by
    obtain ⟨rfl, rfl⟩ := y
    rw [nats_length] at hi
    refine ⟨.int (lo + (i : Nat)), ?_, Same.refl _, fun Z _ _ => .int _⟩
    unfold nats
    rw [List.getElem?_map, List.getElem?_range hi]
    rfl⟩
theorem dI_rng1 (h : dA E ex false tr G fun ds G' => ∃ n : Int, ds = [.int n] ∧ -(2 ^ 62) ≤ n ∧ n < 2 ^ 62 ∧ QA (nats 0 n.toNat) G') : dI E ex (iRng1 tr) G QA := fun β T A σ H R en w k => by
  refine h β T A σ H _ en w fun ds us H1 G1 ⟨n, e, l1, l2, q⟩ en1 s1 r1 => ?_
  subst e
  cases r1 with
  | cons r rn =>
    cases rn
    cases r
    exact ⟨n, rfl, l1, l2, k _ _ H1 G1 q en1 s1 dw_rng⟩
theorem dI_rng2 (h : dA E ex false tr G fun ds G' => ∃ m n : Int, ds = [.int m, .int n] ∧ (-(2 ^ 62) ≤ m ∧ m < 2 ^ 62 ∧ -(2 ^ 62) ≤ n ∧ n < 2 ^ 62) ∧ QA (nats m (n - m).toNat) G') : dI E ex (iRng2 tr) G QA := fun β T A σ H R en w k => by
  refine h β T A σ H _ en w fun ds us H1 G1 ⟨m, n, e, l1, q⟩ en1 s1 r1 => ?_
  subst e
  cases r1 with
  | cons r rn =>
    cases rn with
    | cons r' rn =>
      cases rn
      cases r
      cases r'
      exact ⟨m, n, rfl, l1, k _ _ H1 G1 q en1 s1 dw_rng⟩
/-- for -/
theorem dS_for (h : dI E ex wi G fun ds G1 => ∃ Iv : Nat → List Sl → Prop, Iv 0 G1 ∧ (∀ j d G', ds[j]? = some d → Iv j G' → dG g vs d G' fun G2 => dS E ex ts G2 { nx := Iv (j + 1), ct := Iv (j + 1), bk := P.nx, rt := P.rt }) ∧ ∀ G', Iv ds.length G' → P.nx G') : dS E ex (tFor wi g ts) G P := fun β A σ H Dn en w k1 k2 k3 k4 => by
  refine h β [] A σ H _ en w fun ds J H1 G1 ⟨Iv, i0, step, fin⟩ en1 s1 dw => ?_
  have hb : Same β.B (Off ([] ++ A) H1) := en1.base
  refine ⟨fun i m σ H => m = ds.length - i ∧ i ≤ ds.length ∧ ∃ A' G', Iv i G' ∧ Env { β with B := Off ([] ++ A) H1 } [] A' σ H G', ⟨ds.length, by simp, Nat.zero_le _, A, G1, i0, en1.tobase⟩, ?_⟩
  rintro i m σ2 H2 ⟨rfl, hi, A2, G2, inv, en2⟩
  have g2 : Same (Off ([] ++ A) H1) H2 := Same.trans en2.base off_in
  by_cases hlt : i < ds.length
  · refine .inr ⟨dw.go i H2 hlt g2, fun σ' H' => ∃ A' G', Iv (i + 1) G' ∧ Env { β with B := Off ([] ++ A) H1 } [] A' σ' H' G', fun σ' H' ⟨A', G', q, e'⟩ => ⟨ds.length - (i + 1), by omega, rfl, hlt, A', G', q, e'⟩, fun x H' y => ?_⟩
    obtain ⟨d, hd, sm, rp⟩ := dw.yld i H2 x H' hlt g2 y
    have en3 := en2.grow sm
    refine step i d G2 hd inv _ [] A2 σ2 H' x _ en3 (rp _ en2.live en2.base) fun σ4 G4 q4 en4 _ => ?_
    exact q4 _ A2 σ4 H' _ en4 (w.mono hb) (fun A' σ' H'' G' z e' => ⟨A', G', z, e'⟩) (fun A' σ' H'' G' z e' => k1 A' σ' H'' G' z (e'.rebase hb)) (fun A' σ' H'' G' z e' => ⟨A', G', z, e'⟩) fun d v A' σ' H'' G' z e' r => k4 d v A' σ' H'' G' z (e'.rebase hb) r
  · have e : i = ds.length := by omega
    subst e
    exact .inl ⟨dw.stop H2 g2, k1 A2 σ2 H2 G2 (fin G2 inv) (en2.rebase hb)⟩
/-- while -/
theorem dS_while {tc : TT} (Iv : Nat → List Sl → Prop) (m : Nat) (h0 : Iv m G) (step : ∀ m G', Iv m G' → dT E ex tc G' fun b G2 => (b = true → dS E ex ts G2 { nx := fun G3 => ∃ m', m' < m ∧ Iv m' G3, ct := fun G3 => ∃ m', m' < m ∧ Iv m' G3, bk := P.nx, rt := P.rt }) ∧ (b = false → P.nx G2)) : dS E ex (tWhile tc ts) G P := fun β A σ H Dn en w k1 k2 k3 k4 => by
  refine ⟨fun m σ H => ∃ A' G', Iv m G' ∧ Env β [] A' σ H G', ⟨m, A, G, h0, en⟩, ?_⟩
  rintro m σ2 H2 ⟨A2, G2, inv, en2⟩
  refine step m G2 inv β [] A2 σ2 H2 _ en2 w fun b H3 G3 ⟨q1, q2⟩ en3 s3 => ?_
  cases b with
  | true =>
    refine ⟨fun σ' H' => ∃ m', m' < m ∧ ∃ A' G', Iv m' G' ∧ Env β [] A' σ' H' G', fun σ' H' z => z, ?_⟩
    exact q1 rfl β A2 σ2 H3 _ en3 w (fun A' σ' H'' G' ⟨m', l, z⟩ e' => ⟨m', l, A', G', z, e'⟩) (fun A' σ' H'' G' z e' => k1 A' σ' H'' G' z e') (fun A' σ' H'' G' ⟨m', l, z⟩ e' => ⟨m', l, A', G', z, e'⟩) k4
  | false => exact k1 A2 σ2 H3 G3 (q2 rfl) en3
/-- a comprehension -/
theorem dL_lc (h : dI E ex wi G fun ds G1 => ∃ Iv : Nat → List D → List Sl → Prop, Iv 0 [] G1 ∧ (∀ j d acc G', ds[j]? = some d → Iv j acc G' → dG g vs d (wipeG G' vs) fun G2 => dT E ex tt G2 fun b G3 =>
      (b = true → dE E ex true te G3 fun y G4 => acc.length < 1000000 ∧ Iv (j + 1) (acc ++ [y]) (wipeG G4 vs)) ∧ (b = false → Iv (j + 1) acc (wipeG G3 vs))) ∧ ∀ acc G', Iv ds.length acc G' → QA acc G') : dL E ex (tLc wi g tt te vs) G QA := fun β T A σ H Qv en w k => by
  refine h β T A σ H _ en w fun ds J H1 G1 ⟨Iv, i0, step, fin⟩ en1 s1 dw p hp => ?_
  have hpA : p ∉ T ++ A := fun z => en1.live p z hp
  have hz : ∀ {o : HO} {Hx : Hp}, Same (Off β.Z H1) (Off β.Z Hx) → Same (Off β.Z H1) (Off β.Z (upd Hx p o)) := fun {o Hx} g b x z => by
    obtain ⟨z1, z2⟩ := off_some z
    obtain ⟨z3, z4⟩ := off_some (g b x z)
    exact off_of z1 (by rw [upd_ne (ne_of_none z2 hp)]; exact z4)
  refine ⟨fun i m H => m = ds.length - i ∧ i ≤ ds.length ∧ ∃ acc ds' G', Iv i ds' G' ∧ Env { β with B := Off (T ++ A) H1 } (p :: T) A σ H G' ∧ Sm β H1 H ∧ H p = some (.lst acc) ∧ RpA (Off ((p :: T) ++ A) H) acc ds',
    ⟨ds.length, by simp, Nat.zero_le _, [], [], G1, i0, ?_, hz (Same.refl _), upd_same, .nil⟩, ?_⟩
  · exact (en1.tobase.tmp (o := .lst []) hp)
  rintro i m H2 ⟨rfl, hi, acc, ds', G2, inv, en2, s2, hp2, r2⟩
  have g2 : Same (Off (T ++ A) H1) H2 := Same.trans en2.base off_in
  by_cases hlt : i < ds.length
  · refine .inr ⟨dw.go i H2 hlt g2, fun H' => ∃ acc ds' G', Iv (i + 1) ds' G' ∧ Env { β with B := Off (T ++ A) H1 } (p :: T) A σ H' G' ∧ Sm β H1 H' ∧ H' p = some (.lst acc) ∧ RpA (Off ((p :: T) ++ A) H') acc ds', fun H' z => ⟨ds.length - (i + 1), by omega, rfl, hlt, z⟩, fun x H' y => ?_⟩
    obtain ⟨d, hd, sm, rp⟩ := dw.yld i H2 x H' hlt g2 y
    have en3 := (en2.grow sm).wipe vs
    have s3 : Sm β H1 H' := s2.trans (off_same sm)
    have hw : L2.wipe (L2.wipe σ vs) vs = L2.wipe σ vs := by
      have : ∀ {ws us : List Nat}, (∀ w ∈ ws, w ∈ us) → L2.wipe (L2.wipe σ ws) us = L2.wipe σ us := fun {ws us} hs => by
        induction ws with
        | nil => rfl
        | cons a ws ih =>
          show L2.wipe ((L2.wipe σ ws).set a none) us = _
          rw [wipe_set (hs a List.mem_cons_self)]
          exact ih fun w hw => hs w (List.mem_cons_of_mem _ hw)
      exact this fun w h => h
    refine step i d ds' G2 hd inv _ (p :: T) A _ H' x _ en3 (rp _ en2.live en2.base) fun σ4 G4 q4 en4 w4 => ⟨?_, ?_⟩
    · exact w4.trans hw
    refine q4 _ (p :: T) A σ4 H' _ en4 (w.mono en1.base) fun b H5 G5 ⟨qt, qf⟩ en5 s5 => ?_
    have w5 : L2.wipe σ4 vs = L2.wipe σ vs := w4.trans hw
    cases b with
    | true =>
      refine qt rfl _ (p :: T) A σ4 H5 _ en5 (w.mono en1.base) fun yd yv H6 G6 ⟨hl, q6⟩ en6 s6 r6 => ?_
      have pZ : p ∉ β.Z := fun z => hpA (List.mem_append_right _ (en1.sub p (en1.zs p z)))
      have st : ∀ {Ha Hb : Hp} {o : HO}, Sm β Ha Hb → Ha p = some o → Hb p = some o := fun g z => (off_some (g p _ (off_of pZ z))).2
      have e6 : H6 p = some (.lst acc) := st s6 (st s5 (sm _ _ hp2))
      have rr : RpA (Off ((p :: T) ++ A) H6) acc ds' := r2.mono (((off_same sm).trans (en4.vw s5)).trans (en5.vw s6))
      have hl2 := rr.length
      refine ⟨acc, e6, by rw [hl2, sizeLine_eq]; omega, ?_⟩
      have r6' : Rp (Off ((p :: T) ++ A) H6) yv yd := r6
      have en7 := (en6.retmp (o := .lst (acc ++ [yv])) (en1.fresh0 hp))
      have eo : Off ((p :: T) ++ A) (upd H6 p (.lst (acc ++ [yv]))) = Off ((p :: T) ++ A) H6 := off_upd List.mem_cons_self
      refine ⟨acc ++ [yv], ds' ++ [yd], _, q6, en7.unwipe w5, hz ((s3.trans s5).trans s6), upd_same, ?_⟩
      rw [eo]
      exact rr.append (.one r6')
    | false =>
      have pZ : p ∉ β.Z := fun z => hpA (List.mem_append_right _ (en1.sub p (en1.zs p z)))
      have st : ∀ {Ha Hb : Hp} {o : HO}, Sm β Ha Hb → Ha p = some o → Hb p = some o := fun g z => (off_some (g p _ (off_of pZ z))).2
      exact ⟨acc, ds', _, qf rfl, en5.unwipe w5, s3.trans s5, st s5 (sm _ _ hp2), r2.mono ((off_same sm).trans (en4.vw s5))⟩
  · have e : i = ds.length := by omega
    subst e
    exact .inl ⟨dw.stop H2 g2, k ds' p acc H2 G2 (fin ds' G2 inv) hpA (en1.fresh0 hp) (en2.rebase en1.base) (s1.trans s2) hp2 r2⟩
end
end Kr
/-! Kr4: operators, built-ins, calls on data. -/
namespace Kr
open PySem L2
/-! ### data as the library tells it, == -/
mutual
def D.toP : D → PyData
  | .non => .none
  | .bl b => .bool b
  | .int i => .int i
  | .str x => .str x
  | .lst l => .list (D.toPs l)
  | .tup l => .tuple (D.toPs l)
  | .dic _ _ => .none
  | .ins _ _ _ => .none
  | .is _ _ => .none
  | .fz _ _ => .none
  | .err _ _ => .none
  | .er0 _ => .none
def D.toPs : List D → List PyData
  | [] => []
  | d :: l => D.toP d :: D.toPs l
end
mutual
/-- none, truth values, numbers, texts, lists and tuples of them -/
def D.plain : D → Bool
  | .non => true
  | .bl _ => true
  | .int _ => true
  | .str x => PyData.strOk x
  | .lst l => D.plains l
  | .tup l => D.plains l
  | .dic _ _ => false
  | .ins _ _ _ => false
  | .is _ _ => false
  | .fz _ _ => false
  | .err _ _ => false
  | .er0 _ => false
def D.plains : List D → Bool
  | [] => true
  | d :: l => D.plain d && D.plains l
end
mutual
def D.deep : D → Nat
  | .lst l => D.deeps l + 1
  | .tup l => D.deeps l + 1
  | _ => 0
def D.deeps : List D → Nat
  | [] => 0
  | d :: l => max (D.deep d) (D.deeps l)
end
mutual
theorem dp_of {K : PySem.W.Frag} {F H : Hp} (g : Same F H) : ∀ {v : V} {d : D}, Rp F v d → d.plain = true → Dp K H v d.toP
  | _, _, .non, _ => .non
  | _, _, .bl b, _ => .bl b
  | _, _, .int i, _ => .int i
  | _, _, .str x, _ => .str x
  | _, _, .lst h r, p => .lst (.inl (.inl (g _ _ h))) (dps_of g r p)
  | _, _, .tup h r, p => .tup (.inl (.inl (g _ _ h))) (dps_of g r p)
  | _, _, .dic _ _ _ _, p => Bool.noConfusion p
  | _, _, .ins _ _ _ _, p => Bool.noConfusion p
  | _, _, .is _, p => Bool.noConfusion p
  | _, _, .fz _, p => Bool.noConfusion p
  | _, _, .err _ _ _, p => Bool.noConfusion p
  | _, _, .er0 _, p => Bool.noConfusion p
theorem dps_of {K : PySem.W.Frag} {F H : Hp} (g : Same F H) : ∀ {vs : List V} {ds : List D}, RpA F vs ds → D.plains ds = true → DpAll K H vs (D.toPs ds)
  | _, _, .nil, _ => .nil
  | _, _, @RpA.cons _ v vs d ds h r, p => by
    have p' : (D.plain d && D.plains ds) = true := p
    rw [Bool.and_eq_true] at p'
    exact .cons (dp_of g h p'.1) (dps_of g r p'.2)
end
mutual
theorem lay_of : ∀ d : D, d.plain = true → PyData.canLay0 d.toP = true
  | .non, _ => by simp only [D.toP, PyData.canLay0]
  | .bl _, _ => by simp only [D.toP, PyData.canLay0]
  | .int _, _ => by simp only [D.toP, PyData.canLay0]
  | .str x, h => by
    simp only [D.toP, PyData.canLay0]
    exact h
  | .lst l, h => by
    simp only [D.toP, PyData.canLay0]
    exact lays_of l h
  | .tup l, h => by
    simp only [D.toP, PyData.canLay0]
    exact lays_of l h
  | .dic _ _, h => Bool.noConfusion h
  | .ins _ _ _, h => Bool.noConfusion h
  | .is _ _, h => Bool.noConfusion h
  | .fz _ _, h => Bool.noConfusion h
  | .err _ _, h => Bool.noConfusion h
  | .er0 _, h => Bool.noConfusion h
theorem lays_of : ∀ l : List D, D.plains l = true → PyData.canLayAll0 (D.toPs l) = true
  | [], _ => by simp only [D.toPs, PyData.canLayAll0]
  | d :: l, h => by
    have h' : (D.plain d && D.plains l) = true := h
    rw [Bool.and_eq_true] at h'
    simp only [D.toPs, PyData.canLayAll0]
    rw [lay_of d h'.1, lays_of l h'.2]
    rfl
end
mutual
theorem deep_of : ∀ d : D, PyData.depth d.toP = d.deep ∨ True
  | _ => .inr trivial
end
mutual
theorem depth_of : ∀ d : D, PyData.depth d.toP ≤ d.deep
  | .non => by simp only [D.toP, PyData.depth]; exact Nat.zero_le _
  | .bl _ => by simp only [D.toP, PyData.depth]; exact Nat.zero_le _
  | .int _ => by simp only [D.toP, PyData.depth]; exact Nat.zero_le _
  | .str x => by simp only [D.toP, PyData.depth]; exact Nat.zero_le _
  | .lst l => by
    simp only [D.toP, PyData.depth, D.deep]
    exact Nat.succ_le_succ (depths_of l)
  | .tup l => by
    simp only [D.toP, PyData.depth, D.deep]
    exact Nat.succ_le_succ (depths_of l)
  | .dic _ _ => by simp only [D.toP, PyData.depth]; exact Nat.zero_le _
  | .ins _ _ _ => by simp only [D.toP, PyData.depth]; exact Nat.zero_le _
  | .is _ _ => by simp only [D.toP, PyData.depth]; exact Nat.zero_le _
  | .fz _ _ => by simp only [D.toP, PyData.depth]; exact Nat.zero_le _
  | .err _ _ => by simp only [D.toP, PyData.depth]; exact Nat.zero_le _
  | .er0 _ => by simp only [D.toP, PyData.depth]; exact Nat.zero_le _
theorem depths_of : ∀ l : List D, PyData.depthAll (D.toPs l) ≤ D.deeps l
  | [] => by simp only [D.toPs, PyData.depthAll]; exact Nat.zero_le _
  | d :: l => by
    simp only [D.toPs, PyData.depthAll, D.deeps]
    have h1 := depth_of d
    have h2 := depths_of l
    omega
end
/-- may be compared -/
def D.ok (d : D) : Bool := d.plain && decide (d.deep ≤ 60)
def D.eq (d e : D) : Bool := PyData.eqv d.toP e.toP
theorem shaped_of {d : D} (h : d.ok = true) : SeqAt.shaped d.toP = true := by
  unfold D.ok at h
  rw [Bool.and_eq_true, decide_eq_true_eq] at h
  unfold SeqAt.shaped
  rw [Bool.and_eq_true, decide_eq_true_eq]
  exact ⟨lay_of d h.1, Nat.le_trans (depth_of d) (Nat.le_trans h.2 (by decide))⟩
theorem ok_plain {d : D} (h : d.ok = true) : d.plain = true := by
  unfold D.ok at h
  rw [Bool.and_eq_true] at h
  exact h.1
section
variable {X : Cx}
/-! ### operators of all kinds in one -/
def rEqA (K : PySem.W.Frag) : R2 := fun x y H Q => rEq x y H Q ∨ rEqD K x y H Q
def rNeA (K : PySem.W.Frag) : R2 := fun x y H Q => rNe x y H Q ∨ rNeD K x y H Q
theorem op_eqA (hu : X.A.units + 64 < cLine) : OpR X (compareOp .Eq) (rEqA X.K) := op_eq.or (op_eqD hu)
theorem op_neA (hu : X.A.units + 64 < cLine) : OpR X (compareOp .NotEq) (rNeA X.K) := op_ne.or (op_neD hu)
def rStrCat : R2 := fun x y H Q => ∃ i j, x = .str i ∧ y = .str j ∧ i.length + j.length ≤ sizeLine ∧ Q (.str (i ++ j)) H
def rAddA (K : PySem.W.Frag) : R2 := fun x y H Q => rI0 (fun i j => .int (i + j)) x y H Q ∨ (rStrCat x y H Q ∨ (rCat x y H Q ∨ rCatT K x y H Q))
theorem op_addA : OpR X (binaryOp .Add) (rAddA X.K) := op_add.or ((show OpR X (binaryOp .Add) rStrCat from op_add_str).or (op_cat.or op_catT))
def rSubA : R2 := rI0 fun i j => .int (i - j)
theorem op_subA : OpR X (binaryOp .Sub) rSubA := op_sub
/-- a text so many times -/
def rRepS : R2 := fun x y H Q => ∃ z k, x = .str z ∧ y = .int k ∧ 0 ≤ k ∧ k ≤ 1000 ∧ z.length ≤ 1000 ∧ Q (.str ⟨(List.replicate k.toNat z.cps).foldl (· ++ ·) #[]⟩) H
theorem rep_one (z : Array Nat) : (List.replicate 1 z).foldl (· ++ ·) #[] = z := by simp
theorem rep_nil (n : Nat) : (List.replicate n (#[] : Array Nat)).foldl (· ++ ·) #[] = #[] := by
  induction n with
  | zero => rfl
  | succ n ih => rw [List.replicate_succ, List.foldl_cons]; simpa using ih
theorem rep_eq (z : Array Nat) (n : Nat) : (List.replicate n z).foldl (· ++ ·) #[] = ((List.replicate n z.toList).flatten).toArray := by
  have key : ∀ (n : Nat) (acc : Array Nat), (List.replicate n z).foldl (· ++ ·) acc = acc ++ ((List.replicate n z.toList).flatten).toArray := by
    intro n
    induction n with
    | zero => intro acc; simp
    | succ n ih =>
      intro acc
      rw [List.replicate_succ, List.foldl_cons, ih, List.replicate_succ, List.flatten_cons]
      apply Array.ext'
      simp
  rw [key]
  simp
theorem rep_size (z : Array Nat) (n : Nat) : ((List.replicate n z).foldl (· ++ ·) #[]).size = n * z.size := by
  rw [rep_eq]
  simp [List.sum_replicate_nat]
theorem op_repS : OpR X (binaryOp .Mult) rRepS := by
  intro pins s σ H x y v u Q I rx ry h
  obtain ⟨z, k, rfl, rfl, h0, h1, h2, q⟩ := h
  obtain ⟨t, rfl⟩ := rx
  obtain ⟨t', rfl⟩ := ry
  refine PySem.P.mul_str ?_ (fun _ _ => ?_) (fun _ _ => ?_) ?_
  · have e1 : ¬ k < -(2 ^ 63 : Int) := by omega
    have e2 : ¬ k ≥ 2 ^ 63 := by omega
    rw [decide_eq_false e1, decide_eq_false e2]; rfl
  · have : (z.length : Int) * k ≤ 1000 * 1000 := Int.mul_le_mul (by omega) (by omega) h0 (by omega)
    intro hc
    rename_i hk _
    have hk' : 1 ≤ k := by omega
    have := Int.le_ediv_of_mul_le (show (0 : Int) < k by omega) (show (z.length : Int) * k ≤ 2 ^ 63 - 1 by omega)
    omega
  · have : z.length * k.toNat ≤ 1000 * 1000 := Nat.mul_le_mul h2 (by omega)
    show decide (_ > _) = false
    exact decide_eq_false (by rw [sizeLine_eq]; omega)
  · by_cases hk : k < 1
    · rw [if_pos hk]
      have e : k = 0 := by omega
      subst e
      exact ⟨by decide, .str Str.empty, H, I.tok _, ⟨_, rfl⟩, q⟩
    · rw [if_neg hk]
      by_cases hb : (k == 1 || z.length == 0) = true
      · rw [if_pos hb]
        refine ⟨.str z, H, I, ⟨_, rfl⟩, ?_⟩
        have e : (⟨(List.replicate k.toNat z.cps).foldl (· ++ ·) #[]⟩ : Str) = z := by
          rw [Bool.or_eq_true] at hb
          rcases hb with hb | hb
          · have e : k = 1 := by simpa using hb
            subst e
            rw [show (1 : Int).toNat = 1 from rfl, rep_one]
          · have e : z.cps = #[] := by
              have e' : z.cps.size = 0 := by simpa [Str.length] using hb
              exact Array.eq_empty_of_size_eq_zero e'
            rw [e, rep_nil]
            cases z
            simp at e
            rw [e]
        rw [e] at q
        exact q
      · rw [if_neg hb]
        refine ⟨?_, .str _, H, I.tok _, ⟨_, rfl⟩, q⟩
        have h5 : k.toNat * z.length ≤ 1000 * 1000 := Nat.mul_le_mul (by omega) h2
        have h6 := rep_size z.cps k.toNat
        show (Array.size _) ≤ sizeLine
        rw [h6, sizeLine_eq]
        exact Nat.le_trans h5 (by decide)
def rMulA : R2 := fun x y H Q => rI CMul (fun i j => .int (i * j)) x y H Q ∨ (rRep x y H Q ∨ rRepS x y H Q)
theorem op_mulA : OpR X (binaryOp .Mult) rMulA := op_mul.or (op_rep.or op_repS)
def CPowW (i j : Int) : Prop := 0 ≤ j ∧ (Builtin.Int.intBits i : Int) * j ≤ 2 ^ 27
def rPowA : R2 := rI CPowW fun i j => .int (i ^ j.toNat)
theorem op_powA : OpR X (binaryOp .Pow) rPowA := opI fun _ _ _ _ _ _ _ hc q => PyProof.Rows.pow_int hc.1 hc.2 q
def rModA : R2 := rI (fun _ j => 0 < j) fun i j => .int (i % j)
theorem op_modA : OpR X (binaryOp .Mod) rModA := op_mod
def rDivA : R2 := rI CDiv fun i j => .int (i / j)
theorem op_divA : OpR X (binaryOp .FloorDiv) rDivA := op_fdiv
def rLtA : R2 := rI0 fun i j => .bl (decide (i < j))
theorem op_ltA : OpR X (compareOp .Lt) rLtA := op_lt
def rGtA : R2 := rI0 fun i j => .bl (decide (j < i))
theorem op_gtA : OpR X (compareOp .Gt) rGtA := op_gt
def rLeA : R2 := fun x y H Q => rI0 (fun i j => .bl (decide (i ≤ j))) x y H Q ∨ (∃ i j, x = .str i ∧ y = .str j ∧ Q (.bl (!decide (j.cps.toList < i.cps.toList))) H)
theorem op_leA : OpR X (compareOp .LtE) rLeA := op_le.or op_le_str
def rGeA : R2 := rI0 fun i j => .bl (decide (j ≤ i))
theorem op_geA : OpR X (compareOp .GtE) rGeA := op_ge
/-- in: a sign in a text; flat things in a list or tuple; data in a list -/
def rInA (K : PySem.W.Frag) : R2 := fun x y H Q => (∃ (c : Nat) (z : Str), x = .str ⟨#[c]⟩ ∧ y = .str z ∧ Q (.bl (decide (c ∈ z.cps.toList))) H) ∨ (rIn K false x y H Q ∨ rInD K x y H Q)
def rNotInA (K : PySem.W.Frag) : R2 := fun x y H Q => (∃ (c : Nat) (z : Str), x = .str ⟨#[c]⟩ ∧ y = .str z ∧ Q (.bl (!decide (c ∈ z.cps.toList))) H) ∨ (rIn K true x y H Q ∨ rNotInD K x y H Q)
theorem op_inA (hu : X.A.units + 65 < cLine) : OpR X (compareOp .In) (rInA X.K) := op_in_sign.or (op_in_seq.or (op_inD hu))
theorem op_notInA (hu : X.A.units + 65 < cLine) : OpR X (compareOp .NotIn) (rNotInA X.K) := op_notIn_sign.or (op_notIn_seq.or (op_notInD hu))
def rIsA : R2 := fun x y H Q => y = .non ∧ Q (.bl (decide (x = .non))) H
def rIsNotA : R2 := fun x y H Q => y = .non ∧ Q (.bl (!decide (x = .non))) H
theorem op_isA : OpR X (compareOp .Is) rIsA := op_isN
theorem op_isNotA : OpR X (compareOp .IsNot) rIsNotA := op_notN
def rSlA (K : PySem.W.Frag) : V → Option Int → Option Int → Hp → VK → Prop := fun x lo hi H Q => rSlS x lo hi H Q ∨ (rSlL K x lo hi H Q ∨ rSlT K x lo hi H Q)
theorem sl_A : SlR X (rSlA X.K) := sl_str.or (sl_list.or sl_tup)
end
/-! ### what they give of data -/
theorem rp_sq {K : PySem.W.Frag} {H F : Hp} {v : V} {ds : List D} (e : Same F H) (r : Rp F v (.lst ds)) : ∃ a xs, v = V.ref a ∧ SqL K H a xs ∧ RpA F xs ds ∧ F a = some (.lst xs) := by
  cases r with
  | lst h r => exact ⟨_, _, rfl, .inl (.inl (e _ _ h)), r, h⟩
theorem rp_tq {K : PySem.W.Frag} {H F : Hp} {v : V} {ds : List D} (e : Same F H) (r : Rp F v (.tup ds)) : ∃ a xs, v = V.ref a ∧ SqT K H a xs ∧ RpA F xs ds ∧ F a = some (.tup xs) := by
  cases r with
  | tup h r => exact ⟨_, _, rfl, .inl (.inl (e _ _ h)), r, h⟩
section
variable {K : PySem.W.Frag} {a b : Int} {x y : Str} {d e : D}
theorem od_add : OpD (rAddA K) (.int a) (.int b) (.int (a + b)) := fun H F u v k g r1 r2 q => by
  cases r1; cases r2
  exact .inl ⟨a, b, rfl, rfl, q _ fun _ => .int _⟩
theorem od_cat (h : x.length + y.length ≤ sizeLine) : OpD (rAddA K) (.str x) (.str y) (.str (x ++ y)) := fun H F u v k g r1 r2 q => by
  cases r1; cases r2
  exact .inr (.inl ⟨x, y, rfl, rfl, h, q _ fun _ => .str _⟩)
theorem od_sub : OpD rSubA (.int a) (.int b) (.int (a - b)) := fun H F u v k g r1 r2 q => by
  cases r1; cases r2
  exact ⟨a, b, rfl, rfl, q _ fun _ => .int _⟩
theorem od_mul (h : CMul a b) : OpD rMulA (.int a) (.int b) (.int (a * b)) := fun H F u v k g r1 r2 q => by
  cases r1; cases r2
  exact .inl ⟨a, b, rfl, rfl, h, q _ fun _ => .int _⟩
theorem od_rep (h0 : 0 ≤ a) (h1 : a ≤ 1000) (h2 : x.length ≤ 1000) : OpD rMulA (.str x) (.int a) (.str ⟨((List.replicate a.toNat x.cps.toList).flatten).toArray⟩) := fun H F u v k g r1 r2 q => by
  cases r1; cases r2
  refine .inr (.inr ⟨x, a, rfl, rfl, h0, h1, h2, ?_⟩)
  rw [rep_eq]
  exact q _ fun _ => .str _
theorem od_pow (h : CPowW a b) : OpD rPowA (.int a) (.int b) (.int (a ^ b.toNat)) := fun H F u v k g r1 r2 q => by
  cases r1; cases r2
  exact ⟨a, b, rfl, rfl, h, q _ fun _ => .int _⟩
theorem od_mod (h : 0 < b) : OpD rModA (.int a) (.int b) (.int (a % b)) := fun H F u v k g r1 r2 q => by
  cases r1; cases r2
  exact ⟨a, b, rfl, rfl, h, q _ fun _ => .int _⟩
theorem od_div (h : 0 < b ∧ b < 1073741824) : OpD rDivA (.int a) (.int b) (.int (a / b)) := fun H F u v k g r1 r2 q => by
  cases r1; cases r2
  exact ⟨a, b, rfl, rfl, h, q _ fun _ => .int _⟩
theorem od_lt : OpD rLtA (.int a) (.int b) (.bl (decide (a < b))) := fun H F u v k g r1 r2 q => by
  cases r1; cases r2
  exact ⟨a, b, rfl, rfl, q _ fun _ => .bl _⟩
theorem od_gt : OpD rGtA (.int a) (.int b) (.bl (decide (b < a))) := fun H F u v k g r1 r2 q => by
  cases r1; cases r2
  exact ⟨a, b, rfl, rfl, q _ fun _ => .bl _⟩
theorem od_le : OpD rLeA (.int a) (.int b) (.bl (decide (a ≤ b))) := fun H F u v k g r1 r2 q => by
  cases r1; cases r2
  exact .inl ⟨a, b, rfl, rfl, q _ fun _ => .bl _⟩
theorem od_leS : OpD rLeA (.str x) (.str y) (.bl (!decide (y.cps.toList < x.cps.toList))) := fun H F u v k g r1 r2 q => by
  cases r1; cases r2
  exact .inr ⟨x, y, rfl, rfl, q _ fun _ => .bl _⟩
theorem od_ge : OpD rGeA (.int a) (.int b) (.bl (decide (b ≤ a))) := fun H F u v k g r1 r2 q => by
  cases r1; cases r2
  exact ⟨a, b, rfl, rfl, q _ fun _ => .bl _⟩
theorem od_eqS : OpD (rEqA K) (.str x) (.str y) (.bl (decide (x = y))) := fun H F u v k g r1 r2 q => by
  cases r1; cases r2
  refine .inl ⟨rfl, ?_⟩
  rw [show decide (V.str x = V.str y) = decide (x = y) by rw [dec_str]; rfl]
  exact q _ fun _ => .bl _
theorem od_eqI : OpD (rEqA K) (.int a) (.int b) (.bl (decide (a = b))) := fun H F u v k g r1 r2 q => by
  cases r1; cases r2
  refine .inl ⟨rfl, ?_⟩
  rw [show decide (V.int a = V.int b) = decide (a = b) by rw [dec_int]; rfl]
  exact q _ fun _ => .bl _
theorem od_neS : OpD (rNeA K) (.str x) (.str y) (.bl (!decide (x = y))) := fun H F u v k g r1 r2 q => by
  cases r1; cases r2
  refine .inl ⟨rfl, ?_⟩
  rw [show decide (V.str x = V.str y) = decide (x = y) by rw [dec_str]; rfl]
  exact q _ fun _ => .bl _
theorem od_neI : OpD (rNeA K) (.int a) (.int b) (.bl (!decide (a = b))) := fun H F u v k g r1 r2 q => by
  cases r1; cases r2
  refine .inl ⟨rfl, ?_⟩
  rw [show decide (V.int a = V.int b) = decide (a = b) by rw [dec_int]; rfl]
  exact q _ fun _ => .bl _
theorem od_eq (hd : d.ok = true) (he : e.ok = true) : OpD (rEqA K) d e (.bl (D.eq d e)) := fun H F u v k g r1 r2 q =>
  .inr ⟨d.toP, e.toP, dp_of g r1 (ok_plain hd), dp_of g r2 (ok_plain he), shaped_of hd, shaped_of he, q _ fun _ => .bl _⟩
theorem od_ne (hd : d.ok = true) (he : e.ok = true) : OpD (rNeA K) d e (.bl (!D.eq d e)) := fun H F u v k g r1 r2 q =>
  .inr ⟨d.toP, e.toP, dp_of g r1 (ok_plain hd), dp_of g r2 (ok_plain he), shaped_of hd, shaped_of he, q _ fun _ => .bl _⟩
def D.isNon : D → Bool
  | .non => true
  | _ => false
theorem isNon_v {F : Hp} {v : V} (r : Rp F v d) : decide (v = .non) = d.isNon := by cases r <;> rfl
theorem od_is : OpD rIsA d .non (.bl d.isNon) := fun H F u v k g r1 r2 q => by
  cases r2
  exact ⟨rfl, by rw [isNon_v r1]; exact q _ fun _ => .bl _⟩
theorem od_isNot : OpD rIsNotA d .non (.bl (!d.isNon)) := fun H F u v k g r1 r2 q => by
  cases r2
  exact ⟨rfl, by rw [isNon_v r1]; exact q _ fun _ => .bl _⟩
/-- flat data, and == of them -/
def D.flat : D → Bool
  | .non => true | .bl _ => true | .int _ => true | .str _ => true
  | _ => false
def D.feq : D → D → Bool
  | .non, .non => true
  | .bl a, .bl b => a == b
  | .bl a, .int b => (if a then 1 else 0) == b
  | .int a, .bl b => a == (if b then 1 else 0)
  | .int a, .int b => a == b
  | .str a, .str b => a == b
  | _, _ => false
theorem flat_v {F : Hp} {v : V} (r : Rp F v d) (h : d.flat = true) : flatV v = true := by cases r <;> first | rfl | cases h
theorem flats_v {F : Hp} : ∀ {vs : List V} {ds : List D}, RpA F vs ds → ds.all D.flat = true → vs.all flatV = true
  | _, _, .nil, _ => rfl
  | _, _, .cons h r, p => by
    rw [List.all_cons, Bool.and_eq_true] at p
    rw [List.all_cons, flat_v h p.1, flats_v r p.2]
    rfl
theorem feq_v {F : Hp} {u v : V} (r1 : Rp F u d) (r2 : Rp F v e) : eqV u v = D.feq d e := by cases r1 <;> cases r2 <;> rfl
theorem fin_v {F : Hp} {u : V} (r1 : Rp F u d) : ∀ {vs : List V} {ds : List D}, RpA F vs ds → inV u vs = ds.any fun z => D.feq z d
  | _, _, .nil => rfl
  | _, _, .cons h r => by
    have ih := fin_v r1 r
    unfold inV at ih ⊢
    rw [List.any_cons, List.any_cons, ih, feq_v h r1]
theorem od_in (h1 : d.flat = true) {ds : List D} (h2 : ds.all D.flat = true) : OpD (rInA K) d (.tup ds) (.bl (ds.any fun z => D.feq z d)) := fun H F u v k g r1 r2 q => by
  obtain ⟨p, xs, rfl, hs, r, _⟩ := rp_tq (K := K) g r2
  refine .inr (.inl ⟨p, xs, rfl, .inr hs, flat_v r1 h1, flats_v r h2, ?_⟩)
  show k (.bl (inV u xs)) H
  rw [fin_v r1 r]
  exact q _ fun _ => .bl _
theorem od_inL (h1 : d.flat = true) {ds : List D} (h2 : ds.all D.flat = true) : OpD (rInA K) d (.lst ds) (.bl (ds.any fun z => D.feq z d)) := fun H F u v k g r1 r2 q => by
  obtain ⟨p, xs, rfl, hs, r, _⟩ := rp_sq (K := K) g r2
  refine .inr (.inl ⟨p, xs, rfl, .inl hs, flat_v r1 h1, flats_v r h2, ?_⟩)
  show k (.bl (inV u xs)) H
  rw [fin_v r1 r]
  exact q _ fun _ => .bl _
theorem od_ninT (h1 : d.flat = true) {ds : List D} (h2 : ds.all D.flat = true) : OpD (rNotInA K) d (.tup ds) (.bl (!ds.any fun z => D.feq z d)) := fun H F u v k g r1 r2 q => by
  obtain ⟨p, xs, rfl, hs, r, _⟩ := rp_tq (K := K) g r2
  refine .inr (.inl ⟨p, xs, rfl, .inr hs, flat_v r1 h1, flats_v r h2, ?_⟩)
  show k (.bl (!inV u xs)) H
  rw [fin_v r1 r]
  exact q _ fun _ => .bl _
theorem od_inS {c : Nat} : OpD (rInA K) (.str ⟨#[c]⟩) (.str y) (.bl (decide (c ∈ y.cps.toList))) := fun H F u v k g r1 r2 q => by
  cases r1; cases r2
  exact .inl ⟨c, y, rfl, rfl, q _ fun _ => .bl _⟩
theorem od_ninS {c : Nat} : OpD (rNotInA K) (.str ⟨#[c]⟩) (.str y) (.bl (!decide (c ∈ y.cps.toList))) := fun H F u v k g r1 r2 q => by
  cases r1; cases r2
  exact .inl ⟨c, y, rfl, rfl, q _ fun _ => .bl _⟩
/-- data in a list -/
theorem od_inD (hd : d.ok = true) {ds : List D} (he : (D.lst ds).ok = true) : OpD (rInA K) d (.lst ds) (.bl (ds.any fun z => D.eq z d)) := fun H F u v k g r1 r2 q => by
  have e : ((D.toPs ds).any fun z => PyData.eqv z d.toP) = ds.any fun z => D.eq z d := by
    have key : ∀ l : List D, ((D.toPs l).any fun z => PyData.eqv z d.toP) = l.any fun z => D.eq z d := fun l => by
      induction l with
      | nil => rfl
      | cons a l ih => rw [D.toPs, List.any_cons, List.any_cons, ih]; rfl
    exact key ds
  refine .inr (.inr ⟨d.toP, D.toPs ds, dp_of g r1 (ok_plain hd), dp_of g r2 (ok_plain he), shaped_of hd, shaped_of he, ?_⟩)
  rw [e]
  exact q _ fun _ => .bl _
end
/-! ### items, slices, new lists -/
section
variable {K : PySem.W.Frag} {E : XK} {ex : Addr → D → Prop} {f : Bool} {G : List Sl} {te ta tb : TE} {tl th : TO} {Q : D → List Sl → Prop} {QA : List D → List Sl → Prop} {QO : Option Int → List Sl → Prop} {tr : TA} {i : Nat}
/-- the script's cells: a list that nobody alters -/
def ScrD (K : PySem.W.Frag) (d : D) (ns : List Int) : Prop := ∃ (q : Option (Obj × List V)) (a : Addr), d = .fz q a ∧ ((∃ o, q = some (o, ns.map V.int)) ∨ ∀ H : Hp, SqL K H a (ns.map V.int))
theorem scr_sq {K : PySem.W.Frag} {F H : Hp} {v : V} {d : D} {ns : List Int} (h : ScrD K d ns) (g : Same F H) (r : Rp F v d) : ∃ a, v = V.ref a ∧ SqL K H a (ns.map V.int) := by
  obtain ⟨q, a, rfl, h⟩ := h
  cases r with
  | fz hq =>
    refine ⟨a, rfl, ?_⟩
    rcases h with ⟨o, e⟩ | h
    · exact .inl (.inr ⟨o, g _ _ (hq _ _ e)⟩)
    · exact h H
/-- the item that a subscript tells, as the seq in the view tells it -/
def ItD (x : D) (n : Int) (z : D) : Prop := (∃ ds, x = .lst ds ∧ atI ds n = some z) ∨ (∃ ds, x = .tup ds ∧ atI ds n = some z) ∨ ∃ (s : Str) (c : Nat), x = .str s ∧ s.length ≤ sizeLine ∧ atI s.cps.toList n = some c ∧ z = .str ⟨#[c]⟩
theorem at_get {ds : List D} {xs : List V} {F : Hp} (r : RpA F xs ds) {n : Int} {z : D} (h : atI ds n = some z) : ∃ v, atI xs n = some v ∧ Rp F v z := by
  unfold atI at h ⊢
  rw [r.length]
  cases e : ixN ds.length n with
  | none => rw [e] at h; cases h
  | some j =>
    rw [e] at h
    exact r.get h
theorem dE_ix (h : dE E ex f ta G fun x G1 => dE E ex false tb G1 fun y G2 => ∃ n z, y = .int n ∧ ItD x n z ∧ Q z G2) : dE E ex f (tOp (rIx K) ta tb) G Q := fun β T A σ H Qv en w k => by
  refine h β T A σ H _ en w fun x u H1 G1 h1 en1 s1 r1 => ?_
  refine h1 β T A σ H1 _ en1 w fun y v H2 G2 ⟨n, z, ey, it, q⟩ en2 s2 r2 => ?_
  subst ey
  cases r2
  have r1 := r1.mono (en1.vwf s2)
  rcases it with ⟨ds, rfl, hz⟩ | ⟨ds, rfl, hz⟩ | ⟨s, c, rfl, hl, hc, rfl⟩
  · obtain ⟨p, xs, rfl, hs, r, _⟩ := rp_sq (K := K) vw_in r1
    obtain ⟨v, hv, rv⟩ := at_get r hz
    exact .inl ⟨p, xs, n, v, rfl, rfl, hs, hv, k z v H2 G2 q en2 (s1.trans s2) rv⟩
  · obtain ⟨p, xs, rfl, hs, r, _⟩ := rp_tq (K := K) vw_in r1
    obtain ⟨v, hv, rv⟩ := at_get r hz
    exact .inr (.inl ⟨p, xs, n, v, rfl, rfl, hs, hv, k z v H2 G2 q en2 (s1.trans s2) rv⟩)
  · cases r1
    exact .inr (.inr ⟨s, n, c, rfl, rfl, hl, hc, k _ _ H2 G2 q en2 (s1.trans s2) (.str _)⟩)
theorem dO_none (q : QO none G) : dO E ex tNoPart G QO := fun β T A σ H Qv en w k => k none H G q en (Same.refl _)
theorem dO_some (h : dE E ex false te G fun d G' => ∃ n, d = .int n ∧ QO (some n) G') : dO E ex (tPart te) G QO := fun β T A σ H Qv en w k => by
  refine h β T A σ H _ en w fun x u H1 G1 ⟨n, e, q⟩ en1 s1 r1 => ?_
  subst e
  cases r1
  exact ⟨n, rfl, k _ H1 G1 q en1 s1⟩
def cutD (ds : List D) (lo hi : Option Int) : List D := (ds.drop (HT.sIx ds.length 0 lo)).take (HT.sIx ds.length ds.length hi - HT.sIx ds.length 0 lo)
theorem cut_r {F : Hp} {xs : List V} {ds : List D} (r : RpA F xs ds) (lo hi : Option Int) : RpA F (cutV xs lo hi) (cutD ds lo hi) := by
  unfold cutV cutD
  rw [r.length]
  exact (r.drop _).take _
/-- a slice of a text -/
theorem dE_slS (h : dE E ex false te G fun x G1 => dO E ex tl G1 fun lo G2 => dO E ex th G2 fun hi G3 => ∃ s, x = .str s ∧ s.length ≤ sizeLine ∧ Q (.str (cutS s lo hi)) G3) : dE E ex f (tSl (rSlA K) te tl th) G Q := fun β T A σ H Qv en w k => by
  refine h β T A σ H _ en w fun x u H1 G1 h1 en1 s1 r1 => ?_
  refine h1 β T A σ H1 _ en1 w fun lo H2 G2 h2 en2 s2 => ?_
  refine h2 β T A σ H2 _ en2 w fun hi H3 G3 ⟨s, e, hl, q⟩ en3 s3 => ?_
  subst e
  cases r1
  exact .inl ⟨s, rfl, hl, k _ _ H3 G3 q en3 ((s1.trans s2).trans s3) (.str _)⟩
/-- a slice of a list: a new one -/
theorem dL_sl (h : dE E ex true te G fun x G1 => dO E ex tl G1 fun lo G2 => dO E ex th G2 fun hi G3 => ∃ ds, x = .lst ds ∧ QA (cutD ds lo hi) G3) : dL E ex (tSl (rSlA K) te tl th) G QA := fun β T A σ H Qv en w k => by
  refine h β T A σ H _ en w fun x u H1 G1 h1 en1 s1 r1 => ?_
  refine h1 β T A σ H1 _ en1 w fun lo H2 G2 h2 en2 s2 => ?_
  refine h2 β T A σ H2 _ en2 w fun hi H3 G3 ⟨ds, e, q⟩ en3 s3 => ?_
  subst e
  have r3 := r1.mono (en1.vwf (s2.trans s3))
  obtain ⟨p, xs, rfl, hs, r, _⟩ := rp_sq (K := K) vw_in r3
  refine .inr (.inl ⟨p, xs, rfl, hs, fun o ho => ?_⟩)
  have hpA : o ∉ T ++ A := fun z => en3.live o z ho
  exact k _ o _ _ G3 q hpA (en3.fresh0 ho) (en3.tmp ho) (((s1.trans s2).trans s3).trans (off_new ho)) upd_same ((cut_r r lo hi).mono (off_hid ho))
/-- a slice of the script: a new list -/
theorem dL_slScr (h : dE E ex true te G fun x G1 => dO E ex tl G1 fun lo G2 => dO E ex th G2 fun hi G3 => ∃ ns, ScrD K x ns ∧ QA (cutD (ns.map D.int) lo hi) G3) : dL E ex (tSl (rSlA K) te tl th) G QA := fun β T A σ H Qv en w k => by
  refine h β T A σ H _ en w fun x u H1 G1 h1 en1 s1 r1 => ?_
  refine h1 β T A σ H1 _ en1 w fun lo H2 G2 h2 en2 s2 => ?_
  refine h2 β T A σ H2 _ en2 w fun hi H3 G3 ⟨ns, e, q⟩ en3 s3 => ?_
  have r3 := r1.mono (en1.vwf (s2.trans s3))
  obtain ⟨p, rfl, hs⟩ := scr_sq (K := K) e vw_in r3
  refine .inr (.inl ⟨p, _, rfl, hs, fun o ho => ?_⟩)
  have hpA : o ∉ T ++ A := fun z => en3.live o z ho
  exact k _ o _ _ G3 q hpA (en3.fresh0 ho) (en3.tmp ho) (((s1.trans s2).trans s3).trans (off_new ho)) upd_same ((cut_r (RpA.ofInts (xs := ns)) lo hi))
/-- xs + ys -/
theorem dL_cat (h : dE E ex true ta G fun x G1 => dE E ex true tb G1 fun y G2 => ∃ ds es, x = .lst ds ∧ y = .lst es ∧ ds.length + es.length ≤ 1000000 ∧ QA (ds ++ es) G2) : dL E ex (tOp (rAddA K) ta tb) G QA := fun β T A σ H Qv en w k => by
  refine h β T A σ H _ en w fun x u H1 G1 h1 en1 s1 r1 => ?_
  refine h1 β T A σ H1 _ en1 w fun y v H2 G2 ⟨ds, es, e1, e2, hl, q⟩ en2 s2 r2 => ?_
  subst e1 e2
  have r3 := r1.mono (en1.vwf s2)
  cases r3 with
  | @lst a xs _ ha ra =>
    cases r2 with
    | @lst b ys _ hb rb =>
      refine .inr (.inr (.inl ⟨a, b, xs, ys, rfl, rfl, vw_in _ _ ha, vw_in _ _ hb, by rw [ra.length, rb.length, sizeLine_eq]; omega, fun o ho => ?_⟩))
      have hpA : o ∉ T ++ A := fun z => en2.live o z ho
      exact k _ o _ _ G2 q hpA (en2.fresh0 ho) (en2.tmp ho) ((s1.trans s2).trans (off_new ho)) upd_same ((ra.append rb).mono (off_hid ho))
/-- xs * n -/
theorem dL_rep (h : dE E ex true ta G fun x G1 => dE E ex false tb G1 fun y G2 => ∃ ds n, x = .lst ds ∧ y = .int n ∧ 0 ≤ n ∧ n ≤ 1000 ∧ ds.length ≤ 1000 ∧ QA (List.replicate n.toNat ds).flatten G2) : dL E ex (tOp rMulA ta tb) G QA := fun β T A σ H Qv en w k => by
  refine h β T A σ H _ en w fun x u H1 G1 h1 en1 s1 r1 => ?_
  refine h1 β T A σ H1 _ en1 w fun y v H2 G2 ⟨ds, n, e1, e2, h0, hn, hl, q⟩ en2 s2 r2 => ?_
  subst e1 e2
  have r3 := r1.mono (en1.vwf s2)
  cases r2
  cases r3 with
  | @lst a xs _ ha ra =>
    have hz : xs.length * n.toNat ≤ 1000 * 1000 := Nat.mul_le_mul (by rw [ra.length]; exact hl) (by omega)
    refine .inr (.inl ⟨a, n, xs, rfl, rfl, vw_in _ _ ha, by omega, by omega, by rw [sizeLine_eq]; omega, fun o ho => ?_⟩)
    have hpA : o ∉ T ++ A := fun z => en2.live o z ho
    have rr : ∀ m : Nat, RpA (Vw true β T A H2) (List.replicate m xs).flatten (List.replicate m ds).flatten := fun m => by
      induction m with
      | zero => exact .nil
      | succ m ih =>
        rw [List.replicate_succ, List.replicate_succ, List.flatten_cons, List.flatten_cons]
        exact ra.append ih
    exact k _ o _ _ G2 q hpA (en2.fresh0 ho) (en2.tmp ho) ((s1.trans s2).trans (off_new ho)) upd_same ((rr n.toNat).mono (off_hid ho))
end
end Kr
/-! Kr5: built-ins, purses, calls of defs. -/
namespace Kr
open PySem L2
/-! ### built-ins -/
section
variable {X : Cx} {K : PySem.W.Frag}
def rLenA (K : PySem.W.Frag) : List V → Hp → VK → Prop := fun xs H Q => ∃ x n, xs = [x] ∧ LenV K x H n ∧ Q (.int n) H
theorem call_lenA : CallR X (.builtin "len") (rLenA X.K) := call_len
def LenD : D → Nat → Prop
  | .str y, n => y.length ≤ sizeLine ∧ n = y.length
  | .lst l, n => n = l.length
  | .tup l, n => n = l.length
  | _, _ => False
theorem ca_len {d : D} {n : Nat} (h : LenD d n) : CaD (rLenA K) [d] (.int n) := fun H F us k g r q => by
  cases r with
  | cons r rn =>
    cases rn
    refine ⟨_, n, rfl, ?_, q _ fun _ => .int _⟩
    cases r with
    | str x => exact h
    | @lst a xs ds ha ra => exact .inl ⟨xs, .inl (.inl (g _ _ ha)), by rw [ra.length]; exact h⟩
    | @tup a xs ds ha ra => exact .inr ⟨xs, .inl (.inl (g _ _ ha)), by rw [ra.length]; exact h⟩
    | _ => exact h.elim
theorem ca_lenScr {d : D} {ns : List Int} (h : ScrD K d ns) : CaD (rLenA K) [d] (.int (ns.length : Nat)) := fun H F us k g r q => by
  cases r with
  | cons r rn =>
    cases rn
    obtain ⟨a, rfl, hs⟩ := scr_sq (K := K) h g r
    exact ⟨_, ns.length, rfl, .inl ⟨_, hs, by rw [List.length_map]⟩, q _ fun _ => .int _⟩
def rIntA : List V → Hp → VK → Prop := fun xs H Q => (∃ i, xs = [.int i] ∧ Q (.int i) H) ∨ ∃ k, xs = [.bl k] ∧ Q (.int (if k then 1 else 0)) H
theorem call_intA : CallR X (.type "int") rIntA := call_int1
theorem ca_int {i : Int} : CaD rIntA [.int i] (.int i) := fun H F us k g r q => by
  cases r with
  | cons r rn => cases rn; cases r; exact .inl ⟨i, rfl, q _ fun _ => .int _⟩
theorem ca_intB {b : Bool} : CaD rIntA [.bl b] (.int (if b then 1 else 0)) := fun H F us k g r q => by
  cases r with
  | cons r rn => cases rn; cases r; exact .inr ⟨b, rfl, q _ fun _ => .int _⟩
theorem ca_all {bs : List Bool} : CaD (rAll K) [.lst (bs.map D.bl)] (.bl (bs.all id)) := fun H F us k g r q => by
  cases r with
  | cons r rn =>
    cases rn
    obtain ⟨a, xs, rfl, hs, ra, _⟩ := rp_sq (K := K) g r
    exact ⟨a, bs, rfl, by rw [← RpA.bls ra]; exact hs, q _ fun _ => .bl _⟩
theorem ca_any {bs : List Bool} : CaD (rAny K) [.lst (bs.map D.bl)] (.bl (bs.any id)) := fun H F us k g r q => by
  cases r with
  | cons r rn =>
    cases rn
    obtain ⟨a, xs, rfl, hs, ra, _⟩ := rp_sq (K := K) g r
    exact ⟨a, bs, rfl, by rw [← RpA.bls ra]; exact hs, q _ fun _ => .bl _⟩
theorem ca_sum {ns : List Int} : CaD (rSum K) [.lst (ns.map D.int)] (.int ns.sum) := fun H F us k g r q => by
  cases r with
  | cons r rn =>
    cases rn
    obtain ⟨a, xs, rfl, hs, ra, _⟩ := rp_sq (K := K) g r
    exact ⟨a, ns, rfl, by rw [← RpA.ints ra]; exact hs, q _ fun _ => .int _⟩
def rMax2 : List V → Hp → VK → Prop := fun xs H Q => ∃ i j, xs = [.int i, .int j] ∧ Q (.int (if j > i then j else i)) H
theorem call_maxA (hc : X.calm = true) : CallR X (.builtin "max") rMax2 := call_max2 hc
theorem ca_max {i j : Int} : CaD rMax2 [.int i, .int j] (.int (if j > i then j else i)) := fun H F us k g r q => by
  cases r with
  | cons r rn =>
    cases rn with
    | cons r' rn => cases rn; cases r; cases r'; exact ⟨i, j, rfl, q _ fun _ => .int _⟩
def rMin2 : List V → Hp → VK → Prop := fun xs H Q => ∃ i j, xs = [.int i, .int j] ∧ Q (.int (if j < i then j else i)) H
theorem call_minA (hc : X.calm = true) : CallR X (.builtin "min") rMin2 := call_min2 hc
theorem ca_min {i j : Int} : CaD rMin2 [.int i, .int j] (.int (if j < i then j else i)) := fun H F us k g r q => by
  cases r with
  | cons r rn =>
    cases rn with
    | cons r' rn => cases rn; cases r; cases r'; exact ⟨i, j, rfl, q _ fun _ => .int _⟩
/-- list(t), t a text: its signs -/
def rListS (w : Unit) : List V → Hp → VK → Prop := fun xs H Q => ∃ z : Str, xs = [.str z] ∧ z.cps.size ≤ sizeLine ∧ ∀ l, H l = none → Q (.ref l) (upd H l (.lst (z.cps.toList.map fun c => V.str ⟨#[c]⟩)))
end
/-! ### isinstance -/
def D.ty : D → String
  | .non => "NoneType" | .bl _ => "bool" | .int _ => "int" | .str _ => "str" | .lst _ => "list" | .tup _ => "tuple" | .dic _ _ => "dict" | .ins _ _ _ => "" | .is _ _ => "" | .fz _ _ => "" | .err _ _ => "" | .er0 _ => ""
def D.noIns : D → Bool
  | .ins _ _ _ => false
  | .is _ _ => false
  | .fz _ _ => false
  | .err _ _ => false
  | .er0 _ => false
  | _ => true
def D.isa (T : String) (d : D) : Bool := d.ty == T || (d.ty == "bool" && T == "int")
theorem kit_d {K : PySem.W.Frag} {T : String} (hT : T = "str" ∨ T = "int" ∨ T = "bool" ∨ T = "list" ∨ T = "tuple" ∨ T = "dict") : ∀ d : D, d.noIns = true → PySem.W.kitOne K (.type d.ty) (.type T) = some (d.isa T)
  | .ins _ _ _, h => Bool.noConfusion h
  | .is _ _, h => Bool.noConfusion h
  | .fz _ _, h => Bool.noConfusion h
  | .err _ _, h => Bool.noConfusion h
  | .er0 _, h => Bool.noConfusion h
  | .non, _ => kit_ty (by rcases hT with rfl | rfl | rfl | rfl | rfl | rfl <;> (show kitB "NoneType" _ = some _; decide +kernel))
  | .bl b, _ => kit_ty (by rcases hT with rfl | rfl | rfl | rfl | rfl | rfl <;> (show kitB "bool" _ = some (D.isa _ (.bl true)); decide +kernel))
  | .int b, _ => kit_ty (by rcases hT with rfl | rfl | rfl | rfl | rfl | rfl <;> (show kitB "int" _ = some (D.isa _ (.int 0)); decide +kernel))
  | .str b, _ => kit_ty (by rcases hT with rfl | rfl | rfl | rfl | rfl | rfl <;> (show kitB "str" _ = some (D.isa _ (.str Str.empty)); decide +kernel))
  | .lst b, _ => kit_ty (by rcases hT with rfl | rfl | rfl | rfl | rfl | rfl <;> (show kitB "list" _ = some (D.isa _ (.lst [])); decide +kernel))
  | .tup b, _ => kit_ty (by rcases hT with rfl | rfl | rfl | rfl | rfl | rfl <;> (show kitB "tuple" _ = some (D.isa _ (.tup [])); decide +kernel))
  | .dic k b, _ => kit_ty (by rcases hT with rfl | rfl | rfl | rfl | rfl | rfl <;> (show kitB "dict" _ = some (D.isa _ (.dic [] [])); decide +kernel))
theorem tyx_d {K : PySem.W.Frag} {F H : Hp} (g : Same F H) {v : V} {d : D} (r : Rp F v d) (h : d.noIns = true) : TyX K H v (.type d.ty) := by
  cases r with
  | non => exact .base .non
  | bl b => exact .base (.bl b)
  | int i => exact .base (.int i)
  | str x => exact .base (.str x)
  | lst ha ra => exact .base (.lst (g _ _ ha))
  | tup ha ra => exact .base (.tup (g _ _ ha))
  | dic ha k l ra => exact .base (.dK (g _ _ ha))
  | ins ha k l ra => exact Bool.noConfusion h
  | is r => exact Bool.noConfusion h
  | fz r => exact Bool.noConfusion h
  | err _ _ r => exact Bool.noConfusion h
  | er0 r => exact Bool.noConfusion h
def D.isStr : D → Bool
  | .str _ => true
  | _ => false
theorem isa_str (d : D) : d.isa "str" = d.isStr := by cases d <;> simp [D.isa, D.ty, D.isStr]
def D.isInt : D → Bool
  | .int _ => true
  | .bl _ => true
  | _ => false
theorem isa_int (d : D) : d.isa "int" = d.isInt := by cases d <;> simp [D.isa, D.ty, D.isInt]
def D.isBool : D → Bool
  | .bl _ => true
  | _ => false
theorem isa_bool (d : D) : d.isa "bool" = d.isBool := by cases d <;> simp [D.isa, D.ty, D.isBool]
def D.isList : D → Bool
  | .lst _ => true
  | _ => false
theorem isa_list (d : D) : d.isa "list" = d.isList := by cases d <;> simp [D.isa, D.ty, D.isList]
def D.isTup : D → Bool
  | .tup _ => true
  | _ => false
theorem isa_tuple (d : D) : d.isa "tuple" = d.isTup := by cases d <;> simp [D.isa, D.ty, D.isTup]
def D.isDict : D → Bool
  | .dic _ _ => true
  | _ => false
theorem isa_dict (d : D) : d.isa "dict" = d.isDict := by cases d <;> simp [D.isa, D.ty, D.isDict]
section
variable {K : PySem.W.Frag} {E : XK} {ex : Addr → D → Prop} {f : Bool} {G : List Sl} {te ta tb : TE} {Q : D → List Sl → Prop} {QA : List D → List Sl → Prop} {tr : TA} {i : Nat} {T : String}
theorem dE_isi (hT : T = "str" ∨ T = "int" ∨ T = "bool" ∨ T = "list" ∨ T = "tuple" ∨ T = "dict") (h : dE E ex false te G fun d G1 => d.noIns = true ∧ Q (.bl (d.isa T)) G1) : dE E ex f (tCB (rIsi K) (tCons te (tCons (tC (.ty T)) tNil))) G Q := fun β T0 A σ H Qv en w k => by
  refine h β T0 A σ H _ en w fun d u H1 G1 ⟨hn, q⟩ en1 s1 r1 => ?_
  exact ⟨u, .ty T, .type d.ty, .type T, d.isa T, rfl, .ty T, tyx_d vw_in r1 hn, kit_d hT d hn, k _ _ H1 G1 q en1 s1 (.bl _)⟩
theorem dE_isStr (h : dE E ex false te G fun d G1 => d.noIns = true ∧ Q (.bl d.isStr) G1) : dE E ex f (tCB (rIsi K) (tCons te (tCons (tC (.ty "str")) tNil))) G Q := dE_isi (.inl rfl) (h.imp fun d G1 ⟨a, b⟩ => ⟨a, by rw [isa_str]; exact b⟩)
theorem dE_isInt (h : dE E ex false te G fun d G1 => d.noIns = true ∧ Q (.bl d.isInt) G1) : dE E ex f (tCB (rIsi K) (tCons te (tCons (tC (.ty "int")) tNil))) G Q := dE_isi (.inr (.inl rfl)) (h.imp fun d G1 ⟨a, b⟩ => ⟨a, by rw [isa_int]; exact b⟩)
theorem dE_isBool (h : dE E ex false te G fun d G1 => d.noIns = true ∧ Q (.bl d.isBool) G1) : dE E ex f (tCB (rIsi K) (tCons te (tCons (tC (.ty "bool")) tNil))) G Q := dE_isi (.inr (.inr (.inl rfl))) (h.imp fun d G1 ⟨a, b⟩ => ⟨a, by rw [isa_bool]; exact b⟩)
theorem dE_isList (h : dE E ex false te G fun d G1 => d.noIns = true ∧ Q (.bl d.isList) G1) : dE E ex f (tCB (rIsi K) (tCons te (tCons (tC (.ty "list")) tNil))) G Q := dE_isi (.inr (.inr (.inr (.inl rfl)))) (h.imp fun d G1 ⟨a, b⟩ => ⟨a, by rw [isa_list]; exact b⟩)
theorem dE_isTup (h : dE E ex false te G fun d G1 => d.noIns = true ∧ Q (.bl d.isTup) G1) : dE E ex f (tCB (rIsi K) (tCons te (tCons (tC (.ty "tuple")) tNil))) G Q := dE_isi (.inr (.inr (.inr (.inr (.inl rfl))))) (h.imp fun d G1 ⟨a, b⟩ => ⟨a, by rw [isa_tuple]; exact b⟩)
theorem dE_isDict (h : dE E ex false te G fun d G1 => d.noIns = true ∧ Q (.bl d.isDict) G1) : dE E ex f (tCB (rIsi K) (tCons te (tCons (tC (.ty "dict")) tNil))) G Q := dE_isi (.inr (.inr (.inr (.inr (.inr rfl))))) (h.imp fun d G1 ⟨a, b⟩ => ⟨a, by rw [isa_dict]; exact b⟩)
/-- list(x), tuple(x) of a list or a tuple -/
def rListOf (K : PySem.W.Frag) : List V → Hp → VK → Prop := fun xs H Q => ∃ p ys, xs = [.ref p] ∧ (SqL K H p ys ∨ SqT K H p ys) ∧ ∀ l, H l = none → Q (.ref l) (upd H l (.lst ys))
def rListSt : List V → Hp → VK → Prop := fun xs H Q => ∃ z : Str, xs = [.str z] ∧ z.cps.size ≤ sizeLine ∧ ∀ l, H l = none → Q (.ref l) (upd H l (.lst (z.cps.toList.map fun c => V.str ⟨#[c]⟩)))
def rListA (K : PySem.W.Frag) : List V → Hp → VK → Prop := fun xs H Q => rListOf K xs H Q ∨ (rListSt xs H Q ∨ rListD xs H Q)
theorem vals_of {acc : Array Value} {z : Str} (h : ItemsOf (SignAt z) acc z.cps.size) : Vals (z.cps.toList.map fun c => V.str ⟨#[c]⟩) acc.toList := by
  have hl : acc.toList.length = (z.cps.toList.map fun c => V.str ⟨#[c]⟩).length := by
    rw [List.length_map, Array.length_toList, Array.length_toList]
    exact h.1
  have key : ∀ (xs : List V) (us : List Value), us.length = xs.length → (∀ (j : Nat) (v : Value), us[j]? = some v → ∃ x, xs[j]? = some x ∧ RelV x v) → Vals xs us := by
    intro xs
    induction xs with
    | nil =>
      intro us hl _
      cases us with
      | nil => exact .nil
      | cons u us => simp at hl
    | cons x xs ih =>
      intro us hl hr
      cases us with
      | nil => simp at hl
      | cons u us =>
        obtain ⟨x', e, r⟩ := hr 0 u rfl
        have e := Option.some.inj e
        subst e
        exact .cons r (ih us (by simpa using hl) fun j v hj => hr (j + 1) v hj)
  refine key _ _ hl fun j v hj => ?_
  obtain ⟨c, u, hc, rfl⟩ := h.2 j v (by simpa using hj)
  refine ⟨.str ⟨#[c]⟩, ?_, u, rfl⟩
  rw [List.getElem?_map, Array.getElem?_toList, hc]
  rfl
theorem call_listSt {X : Cx} (hc : X.calm = true) : CallR X (.type "list") rListSt := by
  intro pins s σ H xs us Q I r h
  obtain ⟨z, rfl, hz, q⟩ := h
  obtain ⟨u, rfl, t, rfl⟩ := vals1 r
  refine PySem.call_list_str (hn := hz) (I.ok.hd hc) z t fun h' tk acc' c' hk hS hacc => ?_
  have hf : H s.heap.objs.size = none := I.hok.fresh (Nat.le_refl _)
  have v := vals_of hacc
  refine ⟨.ref _, _, I.laid (t' := tk) (a := s.heap.objs.size) (o := .lst (z.cps.toList.map fun c => V.str ⟨#[c]⟩)) hk (Nat.le_refl _) ⟨?_, acc'.toList, c', v, hS⟩, rfl, q _ hf⟩
  rw [List.length_map, Array.length_toList]
  exact hz
theorem call_listA {X : Cx} (hc : X.calm = true) : CallR X (.type "list") (rListA X.K) := (show CallR X (.type "list") (rListOf X.K) from call_list_of).or ((call_listSt hc).or (call_list_dK hc))
theorem dL_list (h : dA E ex true tr G fun xs G1 => ∃ ds, (xs = [.lst ds] ∨ xs = [.tup ds]) ∧ QA ds G1) : dL E ex (tCB (rListA K) tr) G QA := fun β T A σ H Qv en w k => by
  refine h β T A σ H _ en w fun x u H1 G1 ⟨ds, e, q⟩ en1 s1 r1 => ?_
  obtain ⟨p, xs, rfl, hs, r⟩ : ∃ p xs, u = [V.ref p] ∧ (SqL K H1 p xs ∨ SqT K H1 p xs) ∧ RpA (Off (T ++ A) H1) xs ds := by
    rcases e with rfl | rfl
    · cases r1 with
      | cons r rn =>
        cases rn
        obtain ⟨p, xs, rfl, hs, r, _⟩ := rp_sq (K := K) vw_in r
        exact ⟨p, xs, rfl, .inl hs, r⟩
    · cases r1 with
      | cons r rn =>
        cases rn
        obtain ⟨p, xs, rfl, hs, r, _⟩ := rp_tq (K := K) vw_in r
        exact ⟨p, xs, rfl, .inr hs, r⟩
  refine .inl ⟨p, xs, rfl, hs, fun o ho => ?_⟩
  have hpA : o ∉ T ++ A := fun z => en1.live o z ho
  exact k _ o _ _ G1 q hpA (en1.fresh0 ho) (en1.tmp ho) (s1.trans (off_new ho)) upd_same (r.mono (off_hid ho))
theorem dL_listS (h : dA E ex true tr G fun xs G1 => ∃ z, xs = [.str z] ∧ z.cps.size ≤ sizeLine ∧ QA (signs z) G1) : dL E ex (tCB (rListA K) tr) G QA := fun β T A σ H Qv en w k => by
  refine h β T A σ H _ en w fun x u H1 G1 ⟨z, e, hz, q⟩ en1 s1 r1 => ?_
  subst e
  cases r1 with
  | cons r rn =>
    cases rn
    cases r
    refine .inr (.inl ⟨z, rfl, hz, fun o ho => ?_⟩)
    have hpA : o ∉ T ++ A := fun z => en1.live o z ho
    have rr : ∀ {F : Hp} (l : List Nat), RpA F (l.map fun c => V.str ⟨#[c]⟩) (l.map fun c => D.str ⟨#[c]⟩) := fun l => by
      induction l with
      | nil => exact .nil
      | cons c l ih => exact .cons (.str _) ih
    exact k _ o _ _ G1 q hpA (en1.fresh0 ho) (en1.tmp ho) (s1.trans (off_new ho)) upd_same (rr _)
/-- a key as data -/
def kD : Key → D
  | .inl i => .int i
  | .inr x => .str x
/-- list(d), d a dict: its keys -/
theorem dL_listK (h : dA E ex true tr G fun xs G1 => ∃ ks ds, xs = [.dic ks ds] ∧ QA (ks.map kD) G1) : dL E ex (tCB (rListA K) tr) G QA := fun β T A σ H Qv en w k => by
  refine h β T A σ H _ en w fun x u H1 G1 ⟨ks, ds, e, q⟩ en1 s1 r1 => ?_
  subst e
  cases r1 with
  | cons r rn =>
    cases rn
    cases r with
    | dic ha hk hl ra =>
      rename_i a kvs vs
      refine .inr (.inr ⟨a, kvs, rfl, vw_in _ _ ha, fun o ho => ?_⟩)
      have hpA : o ∉ T ++ A := fun z => en1.live o z ho
      have rr : ∀ {F : Hp} (l : List Key) (vs : List V), l.length = vs.length → RpA F ((l.zip vs).map fun kv => kV kv.1) (l.map kD) := fun {F} l => by
        induction l with
        | nil => exact fun _ _ => .nil
        | cons c l ih =>
          intro vs hv
          cases vs with
          | nil => cases hv
          | cons v vs =>
            refine .cons ?_ (ih vs (by simpa using hv))
            cases c with
            | inl i => exact .int _
            | inr i => exact .str _
      exact k _ o _ _ G1 q hpA (en1.fresh0 ho) (en1.tmp ho) (s1.trans (off_new ho)) upd_same (by rw [hk]; exact rr ks vs hl)
/-- sep.join(xs) -/
def rJoinA (K : PySem.W.Frag) : V → List V → Hp → VK → Prop := fun x xs H Q => ∃ a p, ∃ ys : List Str, x = .str a ∧ xs = [.ref p] ∧ (SqL K H p (ys.map V.str) ∨ SqT K H p (ys.map V.str)) ∧
      (ys.map (·.length)).sum + ys.length * a.length ≤ 16777216 ∧ Q (.str (Txt.join a ys)) H
theorem dE_join (h : dE E ex false ta G fun x G1 => ∃ a, x = .str a ∧ dE E ex false tb G1 fun y G2 => ∃ ys, y = .lst (ys.map D.str) ∧ (ys.map (·.length)).sum + ys.length * a.length ≤ 16777216 ∧ Q (.str (Txt.join a ys)) G2) : dE E ex f (tM1 (rJoinA K) ta tb) G Q := fun β T A σ H Qv en w k => by
  refine h β T A σ H _ en w fun x u H1 G1 ⟨a, e, h1⟩ en1 s1 r1 => ?_
  subst e
  cases r1
  refine ⟨⟨a, rfl⟩, ?_⟩
  refine h1 β T A σ H1 _ en1 w fun y v H2 G2 ⟨ys, e2, hl, q⟩ en2 s2 r2 => ?_
  subst e2
  obtain ⟨p, xs, rfl, hs, r, _⟩ := rp_sq (K := K) vw_in r2
  rw [RpA.strs r] at hs
  exact ⟨a, p, ys, rfl, rfl, .inl hs, hl, k _ _ H2 G2 q en2 (s1.trans s2) (.str _)⟩
/-- n.bit_length() -/
theorem dE_bits (h : dE E ex false te G fun x G1 => ∃ n, x = .int n ∧ Q (.int (Builtin.Int.intBits n : Nat)) G1) : dE E ex f (tBits te) G Q := fun β T A σ H Qv en w k => by
  refine h β T A σ H _ en w fun x u H1 G1 ⟨n, e, q⟩ en1 s1 r1 => ?_
  subst e
  cases r1
  exact ⟨n, rfl, k _ _ H1 G1 q en1 s1 (.int _)⟩
end
/-! ### defs on data -/
/-- a def on data -/
def spD (pre : List D → Prop) (R : List D → D → Prop) : Sp := fun vs H Q _ => ∃ (Z : List Addr) (ds : List D), (∀ a ∈ Z, H a ≠ none) ∧ RpA (Off Z H) vs ds ∧ pre ds ∧ ∀ v d H', R ds d → Same H H' → Rp (Off Z H') v d → Q v H'
/-- a def whose first argument is a purse -/
def spP (pre : List D → Prop) (R : List D → D → Prop) (m : Nat) : Sp := fun vs H Q _ => ∃ (p : Addr) (us : List V) (Z : List Addr) (ds : List D) (n : Nat), vs = .ref p :: us ∧ p ∈ Z ∧ (∀ a ∈ Z, H a ≠ none) ∧ Pur H p n ∧ n + m ≤ 1000000000 ∧ RpA (Off Z H) us ds ∧ pre ds ∧
  ∀ v d H', R ds d → (∀ b x, b ≠ p → H b = some x → H' b = some x) → Pur H' p (n + m) → Rp (Off Z H') v d → Q v H'
def Po.of (R : D → Prop) : Po := { nx := fun _ => R .non, bk := fun _ => False, ct := fun _ => False, rt := fun d _ => R d }
/-- the slots at the entry -/
def slots (N : List Str) (ds : List D) : List Sl := ds.map Sl.imm ++ List.replicate (N.length - ds.length) .any
theorem slots_ok {β : Bs} {T A : List Addr} {H : Hp} : ∀ {vs : List V} {ds : List D}, RpA (Off (T ++ A) H) vs ds → ∀ (m i : Nat) (s : Sl), (ds.map Sl.imm ++ List.replicate m .any)[i]? = some s →
    ∃ o, (vs.map some ++ List.replicate m none)[i]? = some o ∧ SlOk β T A H o s ∧ s.isOwn = false
  | _, _, .nil, m, i, s, h => by
    have h' : (List.replicate m Sl.any)[i]? = some s := h
    rw [List.getElem?_replicate] at h'
    split at h'
    · rename_i hi
      cases h'
      exact ⟨none, by show (List.replicate m none)[i]? = _; rw [List.getElem?_replicate, if_pos hi], trivial, rfl⟩
    · cases h'
  | _, _, .cons r rs, m, 0, s, h => by
    have h' := Option.some.inj h
    subst h'
    exact ⟨_, rfl, ⟨_, rfl, r⟩, rfl⟩
  | _, _, .cons r rs, m, i + 1, s, h => slots_ok rs m i s h
section
variable {P : Program} {w : World} {K : PySem.W.Frag} {mg : Str → Option Value} {base : Heap}
/-- at a def's entry -/
theorem entry {N : List Str} {vs : List V} {ds : List D} {H : Hp} {Z A0 : List Addr} (hz : ∀ a ∈ Z, a ∈ A0) (live : ∀ a ∈ A0, H a ≠ none) (r : RpA (Off A0 H) vs ds) : Env ⟨Z, A0, Off A0 H, H⟩ [] A0 (L2.start N vs) H (slots N ds) := by
  have hl := r.length
  have key := slots_ok (β := ⟨Z, A0, Off A0 H, H⟩) (T := []) (A := A0) (H := H) (show RpA (Off ([] ++ A0) H) vs ds from r) (N.length - ds.length)
  refine ⟨?_, fun i s h => ?_, fun i j s s' a h1 h2 o1 o2 _ _ => ?_, Same.refl _, fun a h => h, hz, fun a h => live a h, fun a _ z => (by cases z), Same.refl _⟩
  · unfold L2.start slots
    rw [List.length_append, List.length_append, List.length_map, List.length_map, List.length_replicate, List.length_replicate, hl]
  · obtain ⟨o, h1, h2, _⟩ := key i s h
    exact ⟨o, by unfold L2.start; rw [hl]; exact h1, h2⟩
  · obtain ⟨_, _, _, e⟩ := key i s h1
    rw [e] at o1
    cases o1
theorem fnD {x qual : Str} {st : Stmt} {f : Addr} {fd : FuncData} {N ps : List Str} {k : Nat} {pre : List D → Prop} {R : List D → D → Prop} (F : Fun K x qual st f fd) (S : FnScope N ps (defScope st)) (len : ∀ ds, pre ds → ds.length = ps.length)
    (hbody : ∀ (cdv : Value) (A : Around) (outer : List PySem.Env) (s : Shared) (H : Hp) (E : XK), Room k (A.deeper (PyProof.Rows.envOfC qual (defScope st) s.heap.objs.size f cdv)) →
      ∃ t, PSs (cxOf CX0 P w K mg base N qual (defScope st) f cdv A outer s H E).nox (defBody st) t ∧ ∀ ds, pre ds → dS E0 (fun _ _ => False) t (slots N ds) (Po.of (R ds))) : FnOk P w K mg base CX0 (k + 1) f fd ps (spD pre R) := by
  refine F.ok S (fun vs H Q E h => ?_) (fun cdv A outer s H vs Q E hr h => ?_)
  · obtain ⟨Z, ds, _, r, hp, _⟩ := h
    rw [r.length]
    exact len ds hp
  · obtain ⟨Z, ds, live, r, hp, q⟩ := h
    obtain ⟨t, ht, hd⟩ := hbody cdv A outer s H E hr
    refine ⟨t, ht, ?_⟩
    have en := entry (N := N) (Z := []) (A0 := Z) (fun a h => by cases h) live r
    have fin : ∀ {A' : List Addr} {σ' : L2.St} {H' : Hp} {G' : List Sl}, Env ⟨[], Z, Off Z H, H⟩ [] A' σ' H' G' → Same H H' := fun {A' σ' H' G'} e => by
      have a := e.all
      rw [off_nil, off_nil] at a
      exact a
    exact hd ds hp ⟨[], Z, Off Z H, H⟩ Z _ H _ en (fun _ _ _ _ _ z => z.elim) (fun A' σ' H' G' z e => q _ .non H' z (fin e) .non) (fun _ _ _ _ z _ => z.elim) (fun _ _ _ _ z _ => z.elim) fun d v A' σ' H' G' z e r => q v d H' z (fin e) r
/-- a def with a purse in slot 0 -/
theorem fnP {x qual : Str} {st : Stmt} {f : Addr} {fd : FuncData} {N ps : List Str} {k m : Nat} {pre : List D → Prop} {R : List D → D → Prop} (F : Fun K x qual st f fd) (S : FnScope N ps (defScope st)) (len : ∀ ds, pre ds → ds.length + 1 = ps.length)
    (hbody : ∀ (cdv : Value) (A : Around) (outer : List PySem.Env) (s : Shared) (H : Hp) (E : XK), Room k (A.deeper (PyProof.Rows.envOfC qual (defScope st) s.heap.objs.size f cdv)) →
      ∃ t, PSs (cxOf CX0 P w K mg base N qual (defScope st) f cdv A outer s H E).nox (defBody st) t ∧ ∀ ds p n, pre ds → n + m ≤ 1000000000 → dS E0 (fun _ _ => False) t (.pur p n :: slots N.tail ds)
        { nx := fun G => R ds .non ∧ ∃ n', n' ≤ n + m ∧ G[0]? = some (.pur p n'), bk := fun _ => False, ct := fun _ => False, rt := fun d G => R ds d ∧ ∃ n', n' ≤ n + m ∧ G[0]? = some (.pur p n') }) : FnOk P w K mg base CX0 (k + 1) f fd ps (spP pre R m) := by
  refine F.ok S (fun vs H Q E h => ?_) (fun cdv A outer s H vs Q E hr h => ?_)
  · obtain ⟨p, us, Z, ds, n, rfl, _, _, _, _, r, hp, _⟩ := h
    rw [List.length_cons, r.length]
    exact len ds hp
  · obtain ⟨p, us, Z, ds, n, rfl, hpZ, live, pu, hn, r, hp, q⟩ := h
    obtain ⟨t, ht, hd⟩ := hbody cdv A outer s H E hr
    refine ⟨t, ht, ?_⟩
    have e0 := entry (N := N.tail) (Z := [p]) (A0 := Z) (fun a h => by rw [List.mem_singleton.mp h]; exact hpZ) live r
    have hN : L2.start N (.ref p :: us) = some (V.ref p) :: L2.start N.tail us := by
      unfold L2.start
      rw [List.map_cons, List.cons_append, List.length_cons, List.length_tail]
      congr 3
      omega
    have en : Env ⟨[p], Z, Off Z H, H⟩ [] Z (L2.start N (.ref p :: us)) H (.pur p n :: slots N.tail ds) := by
      rw [hN]
      refine ⟨by rw [List.length_cons, List.length_cons, e0.len], fun i s h => ?_, fun i j s s' a h1 h2 o1 o2 g1 g2 => ?_, e0.base, e0.sub, e0.zs, e0.live, e0.dj, e0.all⟩
      · cases i with
        | zero =>
          have h' := Option.some.inj h
          subst h'
          exact ⟨_, rfl, rfl, List.mem_singleton.mpr rfl, pu⟩
        | succ i => exact e0.ok i s h
      · have no : ∀ {i : Nat} {s : Sl}, (slots N.tail ds)[i]? = some s → s.isOwn = true → False := fun {i s} h o => by
          obtain ⟨_, _, _, e⟩ := slots_ok (β := ⟨[p], Z, Off Z H, H⟩) (T := []) (A := Z) (H := H) (show RpA (Off ([] ++ Z) H) us ds from r) (N.tail.length - ds.length) i s h
          rw [e] at o
          cases o
        cases i with
        | zero =>
          cases j with
          | zero => rfl
          | succ j => exact (no h2 o2).elim
        | succ i => exact (no h1 o1).elim
    have fin : ∀ {A' : List Addr} {σ' : L2.St} {H' : Hp} {G' : List Sl} {n' : Nat}, Env ⟨[p], Z, Off Z H, H⟩ [] A' σ' H' G' → n' ≤ n + m → G'[0]? = some (.pur p n') → (∀ b x, b ≠ p → H b = some x → H' b = some x) ∧ Pur H' p (n + m) := fun {A' σ' H' G' n'} e hn' hg => by
      refine ⟨fun b x hb hx => (off_some (e.all b x (off_of (fun z => hb (List.mem_singleton.mp z)) hx))).2, ?_⟩
      obtain ⟨o, _, _, _, x, y, z, t, h1, h2, h3, h4, h5, h6, h7, h8⟩ := e.ok 0 _ hg
      exact ⟨x, y, z, t, h1, h2, h3, h4, h5, h6, by omega, h8⟩
    exact hd ds p n hp hn ⟨[p], Z, Off Z H, H⟩ Z _ H _ en (fun _ _ _ _ _ z => z.elim) (fun A' σ' H' G' ⟨z, n', l, g⟩ e => q _ .non H' z (fin e l g).1 (fin e l g).2 .non) (fun _ _ _ _ z _ => z.elim) (fun _ _ _ _ z _ => z.elim)
      fun d v A' σ' H' G' ⟨z, n', l, g⟩ e r => q v d H' z (fin e l g).1 (fin e l g).2 r
end
section
variable {E E' : XK} {ex : Addr → D → Prop} {f : Bool} {G : List Sl} {te ta tb : TE} {Q : D → List Sl → Prop} {tr : TA} {i m : Nat} {pre : List D → Prop} {R : List D → D → Prop}
theorem dE_call (h : dA E ex f tr G fun ds G1 => pre ds ∧ ∀ d, R ds d → Q d G1) : dE E ex f (tCall (spD pre R) [] E' tr) G Q := fun β T A σ H Qv en w k => by
  refine h β T A σ H _ en w fun ds us H1 G1 ⟨hp, q⟩ en1 s1 r1 => ?_
  rw [List.append_nil]
  cases f with
  | true => exact ⟨T ++ A, ds, en1.live, r1, hp, fun v d H2 hR g r => k d v H2 G1 (q d hR) (en1.grow g) (s1.trans (off_same g)) r⟩
  | false => exact ⟨β.A0, ds, fun a ha => en1.live a (en1.a0A a ha), r1, hp, fun v d H2 hR g r => k d v H2 G1 (q d hR) (en1.grow g) (s1.trans (off_same g)) r⟩
/-- a call with the purse of slot i -/
theorem dE_callP {p : Addr} {n : Nat} (hi : G[i]? = some (.pur p n)) (h : dA E ex true tr G fun ds G1 => ∃ n', G1[i]? = some (.pur p n') ∧ pre ds ∧ n' + m ≤ 1000000000 ∧ ∀ d, R ds d → Q d (G1.set i (.pur p (n' + m)))) : dE E ex f (tCall (spP pre R m) [] E' (tCons (tVar i) tr)) G Q := fun β T A σ H Qv en w k => by
  obtain ⟨o, h1, rfl, hz, _⟩ := en.ok i _ hi
  refine ⟨_, h1, ?_⟩
  refine h β T A σ H _ en w fun ds us H1 G1 ⟨n', hi', hp, hn, q⟩ en1 s1 r1 => ?_
  show spP pre R m ((V.ref p :: us) ++ []) H1 Qv E'
  rw [List.append_nil]
  obtain ⟨o, h1', rfl, hz', pu⟩ := en1.ok i _ hi'
  refine ⟨p, us, T ++ A, ds, n', rfl, en1.zA p hz', en1.live, pu, hn, r1, hp, fun v d H2 hR g pu2 r => ?_⟩
  obtain ⟨en2, s2⟩ := en1.bump hi' g pu2
  exact k d v H2 _ (q d hR) en2 (s1.trans s2) (r.mono en2.upf)
/-- a number of a purse -/
def PurAt (n : Nat) : Nat → Int → Prop
  | 0, x => 0 ≤ x ∧ x < 10 ^ 480
  | 1, x => 0 ≤ x ∧ x < 2147483648
  | 2, x => 0 ≤ x ∧ x ≤ n
  | 3, x => 0 ≤ x ∧ x < 1000
  | _, _ => False
theorem dE_pur {K : PySem.W.Frag} {p : Addr} {n j : Nat} (hi : G[i]? = some (.pur p n)) (hj : j < 4) (q : ∀ x, PurAt n j x → Q (.int x) G) : dE E ex f (tOp (rIx K) (tVar i) (tC (.int (j : Int)))) G Q := fun β T A σ H Qv en w k => by
  obtain ⟨o, h1, rfl, hz, x, y, z, t, h5, a1, a2, a3, a4, a5, a6, a7, a8⟩ := en.ok i _ hi
  refine ⟨_, h1, ?_⟩
  have fin : ∀ v : Int, PurAt n j v → Qv (.int v) H := fun v hv => k _ _ H G (q v hv) en (Same.refl _) (.int v)
  have key : ∀ v : Int, [x, y, z, t][j]? = some v → PurAt n j v → rIx K (.ref p) (.int (j : Int)) H Qv := fun v hv hp => by
    refine .inl ⟨p, _, (j : Int), .int v, rfl, rfl, .inl (.inl h5), ?_, fin v hp⟩
    refine atI_nat ?_
    show ([x, y, z, t].map V.int)[j]? = _
    rw [List.getElem?_map, hv]
    rfl
  match j, hj with
  | 0, _ => exact key x rfl ⟨a1, a2⟩
  | 1, _ => exact key y rfl ⟨a3, a4⟩
  | 2, _ => exact key z rfl ⟨a5, a6⟩
  | 3, _ => exact key t rfl ⟨a7, a8⟩
theorem dS_pur {P : Po} {p : Addr} {j : Nat} (hi : ∃ n, G[i]? = some (.pur p n)) (hj : j < 4) (h : dE E ex true te G fun d G1 => ∃ x n n', d = .int x ∧ G1[i]? = some (.pur p n) ∧ n ≤ n' ∧ PurAt n' j x ∧ P.nx (G1.set i (.pur p n'))) : dS E ex (tAsg te (gSub (tVar i) (tC (.int (j : Int))) rSetL)) G P := fun β A σ H Dn en w k1 _ _ _ => by
  refine h β [] A σ H _ en w fun d v H1 G1 ⟨x, n, n', e0, hi', hn, hp, q⟩ en1 s1 r1 => ?_
  subst e0
  cases r1
  obtain ⟨o, h1, rfl, hz, a, b, c, e, h5, a1, a2, a3, a4, a5, a6, a7, a8⟩ := en1.ok i _ hi'
  refine ⟨_, h1, ?_⟩
  have key : ∀ a' b' c' e' : Int, [a, b, c, e].set j x = [a', b', c', e'] → Pur (upd H1 p (.lst ([a', b', c', e'].map V.int))) p n' → ixN 4 (j : Int) = some j → rSetL (.ref p) (.int (j : Int)) (.int x) H1 fun H3 => Dn.nx σ H3 := fun a' b' c' e' he pu hx => by
    refine ⟨p, _, (j : Int), j, rfl, rfl, h5, hx, ?_⟩
    have e1 : ([V.int a, V.int b, V.int c, V.int e].set j (V.int x)) = [a', b', c', e'].map V.int := by
      rw [← he, List.map_set]
      rfl
    show Dn.nx σ (upd H1 p (.lst ([V.int a, V.int b, V.int c, V.int e].set j (V.int x))))
    rw [e1]
    exact k1 A σ _ _ q (en1.bump hi' (fun b x hb hx => by rw [upd_ne hb]; exact hx) pu).1
  match j, hj with
  | 0, _ => exact key x b c e rfl ⟨x, b, c, e, upd_same, hp.1, hp.2, a3, a4, a5, by omega, a7, a8⟩ (by decide)
  | 1, _ => exact key a x c e rfl ⟨a, x, c, e, upd_same, a1, a2, hp.1, hp.2, a5, by omega, a7, a8⟩ (by decide)
  | 2, _ => exact key a b x e rfl ⟨a, b, x, e, upd_same, a1, a2, a3, a4, hp.1, hp.2, a7, a8⟩ (by decide)
  | 3, _ => exact key a b c x rfl ⟨a, b, c, x, upd_same, a1, a2, a3, a4, a5, by omega, hp.1, hp.2⟩ (by decide)
end
end Kr
/-! Kr6: a def of the top, what it promises. -/
namespace Kr
open PySem L2
theorem units65 {k : Nat} {A : Around} (r : Room k A) : A.units + 65 < cLine := by
  have := r.un
  omega
/-- a def of the top, as it stands -/
structure DefAt (K : PySem.W.Frag) (mg : Str → Option Value) (x : Str) (st : Stmt) (ps : List Str) : Prop where
  ex : ∃ (f : Addr) (fd : FuncData), Fun K x x st f fd ∧ mg x = some (.ref f) ∧ Binds K fd ps []
/-- a def of the top and its promise -/
structure Con (P : Program) (w : World) (K : PySem.W.Frag) (mg : Str → Option Value) (base : Heap) (x : Str) (ps : List Str) (k : Nat) (sp : Sp) : Prop where
  ex : ∃ (f : Addr) (fd : FuncData), mg x = some (.ref f) ∧ PySem.W.keepIn K (.ref f) = true ∧ Binds K fd ps [] ∧ FnOk P w K mg base CX0 k f fd ps sp
section
variable {X : Cx} {x : Str} {ps : List Str} {k : Nat} {sp : Sp} {p pos : Pos} {e : Expr} {es : List Expr} {t : TA}
theorem pe_con (c : Con X.prog X.w X.K X.mg X.base x ps k sp) (hr : Room k X.A) (hg : Gl X x) (ha : PA X (e :: es) t) (hdb : (x == ("__debug__" : Str)) = false := by decide)
    (he : starEach (e :: es) X.env = (false, eval e X.env) :: starEach es X.env := by rfl) (hpl : (backTo pos (starEach es X.env)).any (·.1) = false := by rfl) : PE X (.Call (.Name x p) (e :: es) [] pos) (tCall sp [] E0 t) := by
  obtain ⟨f, fd, g, kp, b, F⟩ := c.ex
  exact pe_call F hr hg g kp b .nil pass0 ha hdb he hpl
theorem pe_con0 (c : Con X.prog X.w X.K X.mg X.base x ps k sp) (hr : Room k X.A) (hg : Gl X x) (hdb : (x == ("__debug__" : Str)) = false := by decide) : PE X (.Call (.Name x p) [] [] pos) (tCall sp [] E0 tNil) := by
  obtain ⟨f, fd, g, kp, b, F⟩ := c.ex
  exact pe_call0 F hr hg g kp b .nil pass0 hdb
end
section
variable {P : Program} {w : World} {K : PySem.W.Frag} {mg : Str → Option Value} {base : Heap} {x : Str} {st : Stmt} {N ps : List Str} {k m : Nat} {pre : List D → Prop} {R : List D → D → Prop}
theorem conD (h : DefAt K mg x st ps) (S : FnScope N ps (defScope st)) (len : ∀ ds, pre ds → ds.length = ps.length)
    (hbody : ∀ (f : Addr) (cdv : Value) (A : Around) (outer : List PySem.Env) (s : Shared) (H : Hp) (E : XK), Room k (A.deeper (PyProof.Rows.envOfC x (defScope st) s.heap.objs.size f cdv)) →
      ∃ t, PSs (cxOf CX0 P w K mg base N x (defScope st) f cdv A outer s H E).nox (defBody st) t ∧ ∀ ds, pre ds → dS E0 (fun _ _ => False) t (slots N ds) (Po.of (R ds))) : Con P w K mg base x ps (k + 1) (spD pre R) := by
  obtain ⟨f, fd, F, g, b⟩ := h.ex
  exact ⟨f, fd, g, F.kp, b, fnD F S len fun cdv A outer s H E hr => hbody f cdv A outer s H E hr⟩
theorem conP (h : DefAt K mg x st ps) (S : FnScope N ps (defScope st)) (len : ∀ ds, pre ds → ds.length + 1 = ps.length)
    (hbody : ∀ (f : Addr) (cdv : Value) (A : Around) (outer : List PySem.Env) (s : Shared) (H : Hp) (E : XK), Room k (A.deeper (PyProof.Rows.envOfC x (defScope st) s.heap.objs.size f cdv)) →
      ∃ t, PSs (cxOf CX0 P w K mg base N x (defScope st) f cdv A outer s H E).nox (defBody st) t ∧ ∀ ds p n, pre ds → n + m ≤ 1000000000 → dS E0 (fun _ _ => False) t (.pur p n :: slots N.tail ds)
        { nx := fun G => R ds .non ∧ ∃ n', n' ≤ n + m ∧ G[0]? = some (.pur p n'), bk := fun _ => False, ct := fun _ => False, rt := fun d G => R ds d ∧ ∃ n', n' ≤ n + m ∧ G[0]? = some (.pur p n') }) : Con P w K mg base x ps (k + 1) (spP pre R m) := by
  obtain ⟨f, fd, F, g, b⟩ := h.ex
  exact ⟨f, fd, g, F.kp, b, fnP F S len fun cdv A outer s H E hr => hbody f cdv A outer s H E hr⟩
end
end Kr
/-! Kr7: usual loops and comprehensions. -/
namespace Kr
open PySem L2
/-- a def that is a function of data -/
def spF (pre : List D → Prop) (g : List D → D) : Sp := spD pre fun ds d => d = g ds
section
variable {P : Program} {w : World} {K : PySem.W.Frag} {mg : Str → Option Value} {base : Heap} {x : Str} {st : Stmt} {N ps : List Str} {k m : Nat} {pre : List D → Prop} {g : List D → D}
def Po.is (d : D) : Po := { nx := fun _ => D.non = d, bk := fun _ => False, ct := fun _ => False, rt := fun e _ => e = d }
theorem conF (h : DefAt K mg x st ps) (S : FnScope N ps (defScope st)) (len : ∀ ds, pre ds → ds.length = ps.length)
    (hbody : ∀ (f : Addr) (cdv : Value) (A : Around) (outer : List PySem.Env) (s : Shared) (H : Hp) (E : XK), Room k (A.deeper (PyProof.Rows.envOfC x (defScope st) s.heap.objs.size f cdv)) →
      ∃ t, PSs (cxOf CX0 P w K mg base N x (defScope st) f cdv A outer s H E).nox (defBody st) t ∧ ∀ ds, pre ds → dS E0 (fun _ _ => False) t (slots N ds) (Po.is (g ds))) : Con P w K mg base x ps (k + 1) (spF pre g) :=
  conD h S len fun f cdv A outer s H E hr => by
    obtain ⟨t, h1, h2⟩ := hbody f cdv A outer s H E hr
    exact ⟨t, h1, fun ds hd => (h2 ds hd).imp (fun _ z => z) (fun _ z => z) (fun _ z => z) fun _ _ z => z⟩
end
section
variable {E E' : XK} {ex : Addr → D → Prop} {f : Bool} {G : List Sl} {te ta tb : TE} {Q : D → List Sl → Prop} {QA : List D → List Sl → Prop} {tr : TA} {i m : Nat} {pre : List D → Prop} {g : List D → D} {ts : TS} {wi : TI} {P : Po} {tt : TT}
theorem dE_callF (h : dA E ex f tr G fun ds G1 => pre ds ∧ Q (g ds) G1) : dE E ex f (tCall (spF pre g) [] E' tr) G Q :=
  dE_call (h.imp fun ds G1 ⟨hp, q⟩ => ⟨hp, fun d e => e ▸ q⟩)
theorem dE_varE (h : ∃ d, G[i]? = some (.imm d) ∧ Q d G) : dE E ex f (tVar i) G Q := by
  obtain ⟨d, h1, h2⟩ := h
  exact dE_var h1 h2
theorem dE_ownE (h : ∃ ds, G[i]? = some (.own ds) ∧ Q (.lst ds) G) : dE E ex false (tVar i) G Q := by
  obtain ⟨d, h1, h2⟩ := h
  exact dE_own h1 h2
theorem dE_lc {wi : TI} {g : TG} {tt : TT} {vs : List Nat} (h : dL E ex (tLc wi g tt te vs) G fun ds G1 => Q (.lst ds) G1) : dE E ex f (tLc wi g tt te vs) G Q := dE_L h
theorem dE_lstF (h : dA E ex f tr G fun ds G1 => ds.length ≤ 1000 ∧ Q (.lst ds) G1) : dE E ex f (tLst tr) G Q := dE_lst h
theorem dS_augI {gg : Int → Int → Int} (h : ∃ a, G[i]? = some (.imm (.int a)) ∧ dE E ex false te G fun d G1 => ∃ b, d = .int b ∧ P.nx (G1.set i (.imm (.int (gg a b))))) : dS E ex (tAug i te (ipI gg)) G P := fun β A σ H Dn en w k1 _ _ _ => by
  obtain ⟨a, hi, h⟩ := h
  obtain ⟨v, h1, r⟩ := en.get hi
  cases r
  refine ⟨_, h1, ?_⟩
  refine h β [] A σ H _ en w fun d u H1 G1 ⟨b, e, q⟩ en1 s1 r1 => ?_
  subst e
  cases r1
  exact ⟨a, b, rfl, rfl, k1 A _ H1 _ q (en1.set (.int _))⟩
theorem dS_nextE (q : P.nx G) : dS E ex Ends.nx G P := dS_next q
theorem dS_brkE (q : P.bk G) : dS E ex Ends.bk G P := dS_brk q
theorem dS_ctE (q : P.ct G) : dS E ex Ends.ct G P := dS_ct q
/-- x, y = [..], e -/
theorem dS_parL {j : Nat} (hij : i ≠ j) (h : dA E ex true tr G fun ds G1 => ds.length ≤ 1000 ∧ dE E ex true te G1 fun d G2 => P.nx ((G2.set i (.own ds)).set j (.imm d))) : dS E ex (tPar i j (tCons (tLst tr) (tCons te tNil))) G P := fun β A σ H Dn en w k1 _ _ _ => by
  unfold tPar tCons tNil
  refine dL_lst (QA := fun ds G1 => dE E ex true te G1 fun d G2 => P.nx ((G2.set i (.own ds)).set j (.imm d))) h β [] A σ H _ en w fun ds p xs H1 G1 q hp h0 en1 s1 e1 r1 => ?_
  refine q β [p] A σ H1 _ en1 w fun d v H2 G2 q2 en2 s2 r2 => ?_
  refine ⟨_, _, rfl, ?_⟩
  have pZ : p ∉ β.Z := fun z => hp (List.mem_append_right _ (en1.sub p (en1.zs p z)))
  have e2 : H2 p = some (.lst xs) := (off_some (s2 p _ (off_of pZ e1))).2
  have en3 := en2.own (i := i) e2 hp h0 (r1.mono (en1.vw s2))
  have go : Same (Off ([p] ++ A) H2) (Off ([] ++ (p :: A)) H2) := Same.refl _
  exact k1 (p :: A) _ H2 _ q2 (en3.set (i := j) (Rp.mono go r2))
/-- x, y = d, e -/
theorem dS_par {j : Nat} (h : dE E ex true ta G fun d G1 => dE E ex true tb G1 fun e G2 => P.nx ((G2.set i (.imm d)).set j (.imm e))) : dS E ex (tPar i j (tCons ta (tCons tb tNil))) G P := fun β A σ H Dn en w k1 _ _ _ => by
  unfold tPar tCons tNil
  refine h β [] A σ H _ en w fun d v H1 G1 q en1 s1 r1 => ?_
  refine q β [] A σ H1 _ en1 w fun e u H2 G2 q2 en2 s2 r2 => ?_
  exact ⟨_, _, rfl, k1 A _ H2 _ q2 ((en2.set (i := i) (Rp.mono (en1.vw s2) r1)).set (i := j) r2)⟩
/-- a slot is forgotten at the end -/
theorem dS_nxany (i : Nat) (h : dS E ex ts G { P with nx := fun G' => P.nx (G'.set i .any), ct := fun G' => P.ct (G'.set i .any) }) : dS E ex ts G P := fun β A σ H D en w k1 k2 k3 k4 =>
  h β A σ H D en w (fun A' σ' H' G' z e => k1 A' σ' H' _ z e.any) k2 (fun A' σ' H' G' z e => k3 A' σ' H' _ z e.any) k4
theorem dI_any (i : Nat) (h : dI E ex wi G fun ds G1 => QA ds (G1.set i .any)) : dI E ex wi G QA := fun β T A σ H R en w k =>
  h β T A σ H R en w fun ds J H1 G1 q en1 s1 dw => k ds J H1 _ q en1.any s1 dw
/-- a for that stores nothing for the next turn -/
theorem dS_scan (h : dI E ex wi G fun ds G1 => ∃ Pj : Nat → Prop, Pj 0 ∧ (∀ j d, ds[j]? = some d → Pj j → dS E ex ts (G1.set i (.imm d)) { nx := fun G' => Pj (j + 1) ∧ G'.set i .any = G1.set i .any, ct := fun G' => Pj (j + 1) ∧ G'.set i .any = G1.set i .any, bk := P.nx, rt := P.rt }) ∧ (Pj ds.length → P.nx (G1.set i .any))) : dS E ex (tFor wi (gName i) ts) G P := by
  refine dS_for (vs := [i]) (dI_any i (dI.imp ?_ h))
  intro ds G1 ⟨Pj, p0, step, fin⟩
  refine ⟨fun j G' => Pj j ∧ G' = G1.set i .any, ⟨p0, rfl⟩, fun j d G' hd ⟨pj, e⟩ => ?_, fun G' ⟨pj, e⟩ => ?_⟩
  · subst e
    refine dG_name (List.mem_singleton.mpr rfl) ?_
    rw [List.set_set]
    exact dS_nxany i (step j d hd pj)
  · subst e
    exact fin pj
where
  dI.imp {E : XK} {ex : Addr → D → Prop} {wi : TI} {G : List Sl} {QA QB : List D → List Sl → Prop} (q : ∀ ds G', QA ds G' → QB ds G') (h : dI E ex wi G QA) : dI E ex wi G QB := fun β T A σ H R en w k =>
    h β T A σ H R en w fun ds J H1 G1 z en1 s1 dw => k ds J H1 G1 (q _ _ z) en1 s1 dw
theorem dI.imp {QB : List D → List Sl → Prop} (q : ∀ ds G', QA ds G' → QB ds G') (h : dI E ex wi G QA) : dI E ex wi G QB := fun β T A σ H R en w k =>
  h β T A σ H R en w fun ds J H1 G1 z en1 s1 dw => k ds J H1 G1 (q _ _ z) en1 s1 dw
theorem dE_any (i : Nat) (h : dE E ex f te G fun d G1 => Q d (G1.set i .any)) : dE E ex f te G Q := fun β T A σ H Qv en w k =>
  h β T A σ H Qv en w fun d v H1 G1 q en1 s1 r1 => k d v H1 _ q en1.any s1 r1
/-- [e for x in ds], e a function of x -/
theorem dL_map (h : dI E ex wi G fun ds G1 => ∃ g : D → D, ds.length ≤ 1000000 ∧ (∀ d ∈ ds, dE E ex true te (G1.set i (.imm d)) fun y G2 => y = g d ∧ G2.set i .any = G1.set i .any) ∧ QA (ds.map g) (G1.set i .any)) : dL E ex (tLc wi (gName i) tYes te [i]) G QA := by
  refine dL_lc (dI_any i (dI.imp (fun ds G1 z => ?_) h))
  obtain ⟨g, hl, step, fin⟩ := z
  refine ⟨fun j acc G' => acc = (ds.take j).map g ∧ G' = G1.set i .any, ⟨rfl, rfl⟩, fun j d acc G' hd ⟨ea, eg⟩ => ?_, fun acc G' ⟨ea, eg⟩ => ?_⟩
  · subst eg
    refine dG_name (List.mem_singleton.mpr rfl) (dT_yes ⟨fun _ => ?_, fun z => Bool.noConfusion z⟩)
    show dE E ex true te (((G1.set i .any).set i .any).set i (.imm d)) _
    rw [List.set_set, List.set_set]
    refine (step d (List.mem_of_getElem? hd)).imp fun y G2 ⟨e1, e2⟩ => ⟨?_, ?_, ?_⟩
    · have h3 := (List.getElem?_eq_some_iff.mp hd).1
      rw [ea, List.length_map, List.length_take]; omega
    · rw [ea, e1, List.take_add_one, hd, List.map_append]; rfl
    · exact e2
  · rw [List.take_length] at ea
    rw [ea, eg]
    exact fin
/-- [e for x in ds if t] -/
theorem dL_filter (h : dI E ex wi G fun ds G1 => ∃ (t : D → Bool) (g : D → D), ds.length ≤ 1000000 ∧ (∀ d ∈ ds, dT E ex tt (G1.set i (.imm d)) fun b G2 => b = t d ∧ G2.set i .any = G1.set i .any ∧ (b = true → dE E ex true te G2 fun y G3 => y = g d ∧ G3.set i .any = G1.set i .any)) ∧ QA ((ds.filter t).map g) (G1.set i .any)) : dL E ex (tLc wi (gName i) tt te [i]) G QA := by
  refine dL_lc (dI_any i (dI.imp (fun ds G1 z => ?_) h))
  obtain ⟨t, g, hl, step, fin⟩ := z
  refine ⟨fun j acc G' => acc = ((ds.take j).filter t).map g ∧ G' = G1.set i .any, ⟨rfl, rfl⟩, fun j d acc G' hd ⟨ea, eg⟩ => ?_, fun acc G' ⟨ea, eg⟩ => ?_⟩
  · subst eg
    refine dG_name (List.mem_singleton.mpr rfl) ?_
    show dT E ex tt (((G1.set i .any).set i .any).set i (.imm d)) _
    rw [List.set_set, List.set_set]
    have et : ds.take (j + 1) = ds.take j ++ [d] := by rw [List.take_add_one, hd]; rfl
    refine (step d (List.mem_of_getElem? hd)).imp fun b G2 ⟨e1, e2, e3⟩ => ⟨fun hb => (e3 hb).imp fun y G3 ⟨e4, e5⟩ => ⟨?_, ?_, e5⟩, fun hb => ⟨?_, e2⟩⟩
    · have h1 := List.length_filter_le t (ds.take j)
      have h2 : (ds.take j).length ≤ ds.length := by rw [List.length_take]; omega
      have h3 := (List.getElem?_eq_some_iff.mp hd).1
      have h4 : (ds.take j).length = j := by rw [List.length_take]; omega
      rw [ea, List.length_map]; omega
    · rw [hb] at e1
      rw [ea, e4, et, List.filter_append, List.map_append]
      simp [← e1]
    · rw [hb] at e1
      rw [ea, et, List.filter_append]
      simp [← e1]
  · rw [List.take_length] at ea
    rw [ea, eg]
    exact fin
/-- [e for x in ds], e draws from the purse of slot 0 -/
theorem dL_gen {p : Addr} (h : dI E ex wi G fun ds G1 => ∃ (n m : Nat) (R : Nat → D → Prop), G1[0]? = some (.pur p n) ∧ i ≠ 0 ∧ ds.length ≤ 1000000 ∧
      (∀ j d, ds[j]? = some d → dE E ex true te ((G1.set 0 (.pur p (n + m * j))).set i (.imm d)) fun y G2 => R j y ∧ G2.set i .any = (G1.set 0 (.pur p (n + m * (j + 1)))).set i .any) ∧
      ∀ es, es.length = ds.length → (∀ j e, es[j]? = some e → R j e) → QA es ((G1.set 0 (.pur p (n + m * ds.length))).set i .any)) : dL E ex (tLc wi (gName i) tYes te [i]) G QA := by
  refine dL_lc (dI_any i (dI.imp (fun ds G1 z => ?_) h))
  obtain ⟨n, m, R, h0, hi, hl, step, fin⟩ := z
  refine ⟨fun j acc G' => acc.length = j ∧ (∀ k e, acc[k]? = some e → R k e) ∧ G' = (G1.set 0 (.pur p (n + m * j))).set i .any, ⟨rfl, fun k e z => by simp at z, ?_⟩, fun j d acc G' hd ⟨ea, er, eg⟩ => ?_, fun acc G' ⟨ea, er, eg⟩ => ?_⟩
  · have e : G1.set 0 (.pur p (n + m * 0)) = G1 := by
      rw [Nat.mul_zero, Nat.add_zero]
      refine List.ext_getElem? fun j => ?_
      by_cases hj : j = 0
      · subst hj
        rw [List.getElem?_set_self (List.getElem?_eq_some_iff.mp h0).1, h0]
      · rw [List.getElem?_set_ne (fun z => hj z.symm)]
    rw [e]
  · subst eg
    refine dG_name (List.mem_singleton.mpr rfl) (dT_yes ⟨fun _ => ?_, fun z => Bool.noConfusion z⟩)
    show dE E ex true te ((((G1.set 0 (.pur p (n + m * j))).set i .any).set i .any).set i (.imm d)) _
    rw [List.set_set, List.set_set]
    refine (step j d hd).imp fun y G2 ⟨e1, e2⟩ => ⟨?_, ?_, fun k e z => ?_, e2⟩
    · have h3 := (List.getElem?_eq_some_iff.mp hd).1
      omega
    · rw [List.length_append, ea]; rfl
    · by_cases hk : k < acc.length
      · rw [List.getElem?_append_left hk] at z
        exact er k e z
      · rw [List.getElem?_append_right (by omega)] at z
        have hk' : k = acc.length := by
          have h4 := (List.getElem?_eq_some_iff.mp z).1
          simp at h4
          omega
        subst hk'
        simp at z
        subst z
        rw [ea]
        exact e1
  · rw [eg]
    exact fin acc ea er
/-- a for with the purse in slot 0, nothing else stored -/
theorem dS_scanP {p : Addr} (h : dI E ex wi G fun ds G1 => ∃ (n m : Nat), G1[0]? = some (.pur p n) ∧ i ≠ 0 ∧
      (∀ j d, ds[j]? = some d → dS E ex ts ((G1.set 0 (.pur p (n + m * j))).set i (.imm d)) { nx := fun G' => G'.set i .any = (G1.set 0 (.pur p (n + m * (j + 1)))).set i .any, ct := fun G' => G'.set i .any = (G1.set 0 (.pur p (n + m * (j + 1)))).set i .any, bk := P.nx, rt := P.rt }) ∧
      P.nx ((G1.set 0 (.pur p (n + m * ds.length))).set i .any)) : dS E ex (tFor wi (gName i) ts) G P := by
  refine dS_for (vs := [i]) (dI_any i (dI.imp ?_ h))
  intro ds G1 ⟨n, m, h0, hi, step, fin⟩
  refine ⟨fun j G' => G' = (G1.set 0 (.pur p (n + m * j))).set i .any, ?_, fun j d G' hd e => ?_, fun G' e => ?_⟩
  · have e : G1.set 0 (.pur p (n + m * 0)) = G1 := by
      rw [Nat.mul_zero, Nat.add_zero]
      refine List.ext_getElem? fun j => ?_
      by_cases hj : j = 0
      · subst hj
        rw [List.getElem?_set_self (List.getElem?_eq_some_iff.mp h0).1, h0]
      · rw [List.getElem?_set_ne (fun z => hj z.symm)]
    show _ = _
    rw [e]
  · subst e
    refine dG_name (List.mem_singleton.mpr rfl) ?_
    rw [List.set_set]
    exact dS_nxany i (step j d hd)
  · subst e
    exact fin
/-- fewer draws told as more -/
theorem dE_more {p : Addr} {n n' : Nat} (hn : n ≤ n') (h : dE E ex f te G fun d G1 => G1[0]? = some (.pur p n) ∧ Q d (G1.set 0 (.pur p n'))) : dE E ex f te G Q := fun β T A σ H Qv en w k =>
  h β T A σ H Qv en w fun d v H1 G1 ⟨hi, q⟩ en1 s1 r1 => by
    obtain ⟨o, _, _, _, x, y, z, t, h1, h2, h3, h4, h5, h6, h7, h8⟩ := en1.ok 0 _ hi
    exact k d v H1 _ q (en1.bump hi (fun _ _ _ z => z) ⟨x, y, z, t, h1, h2, h3, h4, h5, h6, by omega, h8⟩).1 s1 r1
end
end Kr
/-! Kr8: defs that raise, calls of them, try .. except .. as. -/
namespace Kr
open PySem L2
/-- a def that may raise an own error: of the class at C, its value d -/
def spX (pre : List D → Prop) (R : List D → D → Prop) (ex : List D → Addr → D → Prop) : Sp := fun vs H Q E => ∃ (Z : List Addr) (ds : List D), (∀ a ∈ Z, H a ≠ none) ∧ RpA (Off Z H) vs ds ∧ pre ds ∧ (∀ v d H', R ds d → Same H H' → Rp (Off Z H') v d → Q v H') ∧
  ∀ (C : Addr) (d : D) (dd : Addr) (v : V) (H' : Hp), ex ds C d → Same H H' → Off Z H' dd = some (.xd [(("value" : Str), v)]) → Rp (Off Z H') v d → E (.ref C) (some dd) H'
structure ConX (P : Program) (w : World) (K : PySem.W.Frag) (mg : Str → Option Value) (base : Heap) (x : Str) (ps : List Str) (k : Nat) (sp : Sp) : Prop where
  ex : ∃ (f : Addr) (fd : FuncData), mg x = some (.ref f) ∧ PySem.W.keepIn K (.ref f) = true ∧ Binds K fd ps [] ∧ FnOk P w K mg base (L2.CX P w) k f fd ps sp
section
variable {X : Cx} {x : Str} {ps : List Str} {k : Nat} {sp : Sp} {p pos : Pos} {e : Expr} {es : List Expr} {t : TA} {W : WX} {E : XK}
theorem pe_conW (c : ConX X.prog X.w X.K X.mg X.base x ps k sp) (hr : Room k X.A) (tk : Takes X W) (hg : Gl X x) (ha : PA X (e :: es) t) (hdb : (x == ("__debug__" : Str)) = false := by decide)
    (he : starEach (e :: es) X.env = (false, eval e X.env) :: starEach es X.env := by rfl) (hpl : (backTo pos (starEach es X.env)).any (·.1) = false := by rfl) : PE X (.Call (.Name x p) (e :: es) [] pos) (tCallSD sp [] (WE W) t) := by
  obtain ⟨f, fd, g, kp, b, F⟩ := c.ex
  have : tCallSD sp [] (WE W) t = tCallS sp (WE W) t := by
    funext σ H Q
    unfold tCallSD tCallS
    congr 1
    funext vs H1
    rw [List.append_nil]
  rw [this]
  exact pe_callS F hr hg g kp b (fun σ => passAt tk σ) ha hdb he hpl
theorem pe_conX (c : ConX X.prog X.w X.K X.mg X.base x ps k sp) (hr : Room k X.A) (tk : Takes X fun cls d _ H => E cls d H) (hg : Gl X x) (ha : PA X (e :: es) t) (hdb : (x == ("__debug__" : Str)) = false := by decide)
    (he : starEach (e :: es) X.env = (false, eval e X.env) :: starEach es X.env := by rfl) (hpl : (backTo pos (starEach es X.env)).any (·.1) = false := by rfl) : PE X (.Call (.Name x p) (e :: es) [] pos) (tCall sp [] E t) :=
  pe_conW (W := fun cls d _ H => E cls d H) c hr tk hg ha hdb he hpl
end
section
variable {P : Program} {w : World} {K : PySem.W.Frag} {mg : Str → Option Value} {base : Heap} {x : Str} {st : Stmt} {N ps : List Str} {k : Nat} {pre : List D → Prop} {R : List D → D → Prop} {ex : List D → Addr → D → Prop}
theorem conX (h : DefAt K mg x st ps) (S : FnScope N ps (defScope st)) (len : ∀ ds, pre ds → ds.length = ps.length)
    (hbody : ∀ (f : Addr) (cdv : Value) (A : Around) (outer : List PySem.Env) (s : Shared) (H : Hp) (E : XK), Room k (A.deeper (PyProof.Rows.envOfC x (defScope st) s.heap.objs.size f cdv)) →
      ∃ t, PSs (cxOf (L2.CX P w) P w K mg base N x (defScope st) f cdv A outer s H E) (defBody st) t ∧ ∀ ds, pre ds → dS E (ex ds) t (slots N ds) (Po.of (R ds))) : ConX P w K mg base x ps (k + 1) (spX pre R ex) := by
  obtain ⟨f, fd, F, g, b⟩ := h.ex
  refine ⟨f, fd, g, F.kp, b, ?_⟩
  refine F.okX S (fun vs H Q E h => ?_) (fun cdv A outer s H vs Q E hr h => ?_)
  · obtain ⟨Z, ds, _, r, hp, _⟩ := h
    rw [r.length]
    exact len ds hp
  · obtain ⟨Z, ds, live, r, hp, q, qx⟩ := h
    obtain ⟨t, ht, hd⟩ := hbody f cdv A outer s H E hr
    refine ⟨t, ht, ?_⟩
    have en := entry (N := N) (Z := []) (A0 := Z) (fun a h => by cases h) live r
    have fin : ∀ {A' : List Addr} {σ' : L2.St} {H' : Hp} {G' : List Sl}, Env ⟨[], Z, Off Z H, H⟩ [] A' σ' H' G' → Same H H' := fun {A' σ' H' G'} e => by
      have a := e.all
      rw [off_nil, off_nil] at a
      exact a
    have wish : Wish ⟨[], Z, Off Z H, H⟩ E (ex ds) := fun C d dd v H' he _ hz _ hd hr => qx C d dd v H' he (by
      have a : Same (Off [] H) (Off [] H') := hz
      rw [off_nil, off_nil] at a
      exact a) hd hr
    exact hd ds hp ⟨[], Z, Off Z H, H⟩ Z _ H _ en wish (fun A' σ' H' G' z e => q _ .non H' z (fin e) .non) (fun _ _ _ _ z _ => z.elim) (fun _ _ _ _ z _ => z.elim) fun d v A' σ' H' G' z e r => q v d H' z (fin e) r
end
section
variable {E : XK} {ex : Addr → D → Prop} {f : Bool} {G : List Sl} {te : TE} {Q : D → List Sl → Prop} {tr : TA} {i : Nat} {pre : List D → Prop} {R : List D → D → Prop} {ex0 : List D → Addr → D → Prop} {P : Po} {d : D}
theorem dE_callX (h : dA E ex f tr G fun ds G1 => pre ds ∧ (∀ d, R ds d → Q d G1) ∧ ∀ C d, ex0 ds C d → ex C d) : dE E ex f (tCall (spX pre R ex0) [] E tr) G Q := fun β T A σ H Qv en w k => by
  refine h β T A σ H _ en w fun ds us H1 G1 ⟨hp, q, qx⟩ en1 s1 r1 => ?_
  rw [List.append_nil]
  have live : ∀ {H2 : Hp}, Same H1 H2 → ∀ a ∈ β.A0, H2 a ≠ none := fun {H2} g a ha z => by
    cases e : H1 a with
    | none => exact en1.live a (en1.a0A a ha) e
    | some o => rw [g _ _ e] at z; cases z
  cases f with
  | true => exact ⟨T ++ A, ds, en1.live, r1, hp, fun v d H2 hR g r => k d v H2 G1 (q d hR) (en1.grow g) (s1.trans (off_same g)) r,
      fun C d dd v H2 he g hd r => w C d dd v H2 (qx C d he) ((en1.base.trans en1.up).trans (off_same g)) (en1.all.trans (off_same g)) (live g) ((off_le en1.a0A) _ _ hd) (r.mono (off_le en1.a0A))⟩
  | false => exact ⟨β.A0, ds, fun a ha => en1.live a (en1.a0A a ha), r1, hp, fun v d H2 hR g r => k d v H2 G1 (q d hR) (en1.grow g) (s1.trans (off_same g)) r,
      fun C d dd v H2 he g hd r => w C d dd v H2 (qx C d he) ((en1.base.trans en1.up).trans (off_same g)) (en1.all.trans (off_same g)) (live g) hd r⟩
theorem dS_raise {C : Addr} (h : dA E ex false tr G fun ds _ => ∃ d, ds = [d] ∧ ex C d) : dS E ex (tRaiseV C (fun cls d _ H => E cls d H) tr) G P := fun β A σ H Dn en w _ _ _ _ => by
  refine h β [] A σ H _ en w fun ds vs H1 G1 ⟨d, e, hx⟩ en1 s1 r1 => ?_
  subst e
  cases r1 with
  | cons r rs =>
    cases rs
    rename_i v
    refine ⟨v, rfl, fun dd hn => ?_⟩
    have g : Same H1 (upd H1 dd (.xd [(("value" : Str), v)])) := fun b x z => by rw [upd_ne (ne_of_none z hn)]; exact z
    have hA : dd ∉ β.A0 := fun z => en1.live dd (en1.a0A dd z) hn
    refine w C d dd v _ hx ((en1.base.trans en1.up).trans (off_same g)) (en1.all.trans (off_same g)) (fun a ha z => ?_) (off_of hA upd_same) (Rp.mono (off_same g) (show Rp (Off β.A0 H1) v d from r))
    cases e : H1 a with
    | none => exact en1.live a (en1.a0A a ha) e
    | some o => rw [g _ _ e] at z; cases z
/-- what the error that is held carries -/
theorem dE_byV {C a dd : Addr} (h : G[i]? = some (.exc a dd d)) (q : Q d G) : dE E ex f (tByV C a (.ref C) (some dd) (tVar i)) G Q := fun β T A σ H Qv en w k => by
  obtain ⟨o, h1, rfl, v, h2, h3⟩ := en.ok i _ h
  exact ⟨_, h1, rfl, rfl, dd, v, rfl, (off_some h2).2, k d v H G q en (Same.refl _) (h3.mono en.upf)⟩
/-- behind an error that was caught, what one owned is lost sight of -/
def Sl.rest : Sl → Sl
  | .own _ => .any
  | .pur _ _ => .any
  | .oat _ _ => .any
  | s => s
theorem dS_try {K : PySem.W.Frag} {C0 : Addr} {ts : Addr → Value → Option Addr → TS} {Wout : WX} {tb : WX → TS} {tb' : XK → TS} {ex1 : Addr → D → Prop} (htb : ∀ W D σ H, tb W D σ H = tb' (WE W σ) D σ H)
    (hcl : ∀ C d, ex1 C d → PySem.W.exmOne K (.ref C) (.ref C0) = some true) (h : ∀ E, dS E ex1 (tb' E) G P)
    (hs : ∀ (C : Addr) (d : D) (a dd : Addr), ex1 C d → dS E ex (ts a (.ref C) (some dd)) ((G.map Sl.rest).set i (.exc a dd d)) { nx := fun G' => P.nx (G'.set i .any), bk := fun G' => P.bk (G'.set i .any), ct := fun G' => P.ct (G'.set i .any), rt := P.rt }) :
    dS E ex (fun D σ H => tb (wAs K (.ref C0) i ts Wout D) D σ H) G P := fun β A σ H Dn en w k1 k2 k3 k4 => by
  show tb _ Dn σ H
  rw [htb]
  refine h _ { β with B := Off ([] ++ A) H } A σ H Dn en.tobase ?_ (fun A' σ' H' G' z e => k1 A' σ' H' G' z (e.rebase en.base)) (fun A' σ' H' G' z e => k2 A' σ' H' G' z (e.rebase en.base)) (fun A' σ' H' G' z e => k3 A' σ' H' G' z (e.rebase en.base))
    fun d v A' σ' H' G' z e r => k4 d v A' σ' H' G' z (e.rebase en.base) r
  intro C d dd v H' he hb hz hl hd hr
  refine ⟨true, hcl C d he, fun _ a _ => ?_, fun z => Bool.noConfusion z⟩
  have hb' : Same (Off ([] ++ A) H) (Off β.A0 H') := hb
  have hl' : ∀ a ∈ β.A0, H' a ≠ none := hl
  have e2 : Env β [] β.A0 (σ.set i (some (.ref a))) H' ((G.map Sl.rest).set i (.exc a dd d)) := by
    refine ⟨by rw [List.length_set, List.length_set, List.length_map]; exact en.len, fun j s hj => ?_, fun j k s s' b h1 h2 o1 o2 _ _ => ?_, en.base.trans hb', fun a h => h, en.zs, fun a ha => hl' a ha, fun a _ z => (by cases z), hz⟩
    · rcases set_get hj with ⟨rfl, rfl, hl2⟩ | ⟨hji, hj⟩
      · refine ⟨some (.ref a), ?_, rfl, v, hd, hr⟩
        rw [List.getElem?_set_self]
        rw [en.len]
        rw [List.length_map] at hl2
        exact hl2
      · rw [List.getElem?_map] at hj
        cases e : G[j]? with
        | none => rw [e] at hj; cases hj
        | some s0 =>
          rw [e] at hj
          have hj := Option.some.inj hj
          obtain ⟨o, q1, q2⟩ := en.ok j s0 e
          refine ⟨o, by rw [List.getElem?_set_ne (Ne.symm hji)]; exact q1, ?_⟩
          subst hj
          cases s0 with
          | any => trivial
          | imm d => obtain ⟨v, h3, h4⟩ := q2; exact ⟨v, h3, h4.mono hb'⟩
          | own ds => trivial
          | pur b n => trivial
          | exc b dd d => obtain ⟨h3, v, h4', h5'⟩ := q2; exact ⟨h3, v, hb' _ _ h4', h5'.mono hb'⟩
          | oat b ds => trivial
    · have no : ∀ {j : Nat} {s : Sl}, ((G.map Sl.rest).set i (.exc a dd d))[j]? = some s → s.isOwn = true → False := fun {j s} hj ho => by
        rcases set_get hj with ⟨rfl, rfl, _⟩ | ⟨_, hj⟩
        · cases ho
        · rw [List.getElem?_map] at hj
          cases e : G[j]? with
          | none => rw [e] at hj; cases hj
          | some s0 =>
            rw [e] at hj
            have hj := Option.some.inj hj
            subst hj
            cases s0 <;> cases ho
      exact (no h1 o1).elim
  exact hs C d a dd he β β.A0 _ H' _ e2 w (fun A' σ' H2 G' z e => k1 A' _ H2 _ z (e.forget none)) (fun A' σ' H2 G' z e => k2 A' _ H2 _ z (e.forget none)) (fun A' σ' H2 G' z e => k3 A' _ H2 _ z (e.forget none))
    fun d v A' σ' H2 G' z e r => k4 d v A' σ' H2 G' z e r
end
end Kr
/-! Kr9: new lists out of defs, identity, borrowed lists, zip, dict walks. -/
namespace Kr
open PySem L2
section
variable {β : Bs} {T A : List Addr} {σ : L2.St} {H H' : Hp} {G : List Sl} {p : Addr} {i : Nat}
/-- a new object among what has come, hidden as a thing in the making -/
theorem Env.tmpS (e : Env β T A σ H G) (g : Same H H') (hp : H p = none) (hn : H' p ≠ none) : Env β (p :: T) A σ H' G := by
  have go : Same (Off (T ++ A) H) (Off ((p :: T) ++ A) H') := fun b x z => by
    obtain ⟨z1, z2⟩ := off_some z
    refine off_of (fun y => ?_) (g _ _ z2)
    rcases List.mem_cons.mp (show b ∈ p :: (T ++ A) from y) with y | y
    · rw [y, hp] at z2; cases z2
    · exact z1 y
  refine ⟨e.len, fun i s h => ?_, e.dis, fun b x z => go _ _ (e.base _ _ z), e.sub, e.zs, fun a ha z => ?_, fun a ha z => ?_, e.all.trans (off_same g)⟩
  · obtain ⟨o, h1, h2⟩ := e.ok i s h
    exact ⟨o, h1, h2.mono (fun _ h => h) (p :: T) go (fun a x _ _ q => g _ _ q) fun a _ x q => g _ _ q⟩
  · rcases List.mem_cons.mp (show a ∈ p :: (T ++ A) from ha) with q | q
    · exact hn (q ▸ z)
    · cases w : H a with
      | none => exact e.live a q w
      | some u => rw [g _ _ w] at z; cases z
  · rcases List.mem_cons.mp z with q | q
    · exact e.live a (List.mem_append_right _ ha) (q ▸ hp)
    · exact e.dj a ha q
/-- the same slots once more, behind what has come -/
theorem Env.again (e : Env β T A σ H G) {A2 : List Addr} {G2 : List Sl} (e2 : Env β T A2 σ H' G2) (g : Sm β H H') (hs : ∀ (j : Nat) (a : Addr) (n : Nat), G[j]? = some (.pur a n) → G2[j]? = some (.pur a n)) : Env β T A σ H' G := by
  refine ⟨e.len, fun j s h => ?_, e.dis, fun b x z => e.vw g _ _ (e.base _ _ z), e.sub, e.zs, fun a ha z => ?_, e.dj, e.all.trans g⟩
  · obtain ⟨o, h1, h2⟩ := e.ok j s h
    refine ⟨o, h1, ?_⟩
    cases s with
    | any => trivial
    | imm d => obtain ⟨v, h3, h4⟩ := h2; exact ⟨v, h3, h4.mono (e.vw g)⟩
    | own ds =>
      obtain ⟨a, xs, h3, h4, h5, h6⟩ := h2
      exact ⟨a, xs, h3, h4, (off_some (g a _ (off_of (fun z => h4.2.1 (e.zs a z)) h5))).2, h6.mono (e.vw g)⟩
    | pur a n =>
      obtain ⟨o', h1', h2'⟩ := e2.ok j _ (hs j a n h)
      rw [h1] at h1'
      cases h1'
      exact h2'
    | exc a dd d => obtain ⟨h3, v, h4, h5⟩ := h2; exact ⟨h3, v, e.vw g _ _ h4, h5.mono (e.vw g)⟩
    | oat a ds =>
      obtain ⟨h3, h4, xs, h5, h6⟩ := h2
      exact ⟨h3, h4, xs, (off_some (g a _ (off_of (fun z => h4.2.1 (e.zs a z)) h5))).2, h6.mono (e.vw g)⟩
  · by_cases hz : a ∈ β.Z
    · exact e2.live a (e2.zA a hz) z
    · cases w : H a with
      | none => exact e.live a ha w
      | some u => rw [(off_some (g a _ (off_of hz w))).2] at z; cases z
end
section
variable {E E' : XK} {ex : Addr → D → Prop} {f : Bool} {G : List Sl} {te ta tb : TE} {Q : D → List Sl → Prop} {QB : Bool → List Sl → Prop} {QA : List D → List Sl → Prop} {P : Po} {i j : Nat} {d : D} {tt : TT} {ts tu : TS} {tr : TA} {N : List D → Prop}
/-! ### a def that gives a new list -/
def dSN (E : XK) (ex : Addr → D → Prop) (t : TS) (G : List Sl) (P : Po) (N : List D → Prop) : Prop :=
  ∀ (β : Bs) (A : List Addr) (σ : L2.St) (H : Hp) (D : Ends), Env β [] A σ H G → Wish β E ex →
    (∀ A' σ' H' G', P.nx G' → Env β [] A' σ' H' G' → D.nx σ' H') → (∀ A' σ' H' G', P.bk G' → Env β [] A' σ' H' G' → D.bk σ' H') → (∀ A' σ' H' G', P.ct G' → Env β [] A' σ' H' G' → D.ct σ' H') →
    (∀ d v A' σ' H' G', P.rt d G' → Env β [] A' σ' H' G' → Rp (Off β.A0 H') v d → D.rt v H') →
    (∀ ds p xs A' σ' H' G', N ds → Env β [] A' σ' H' G' → p ∉ β.A0 → β.H0 p = none → H' p = some (.lst xs) → RpA (Off (p :: β.A0) H') xs ds → D.rt (.ref p) H') → t D σ H
theorem dSN_of (h : dS E ex ts G P) : dSN E ex ts G P N := fun β A σ H D en w k1 k2 k3 k4 _ => h β A σ H D en w k1 k2 k3 k4
theorem dSN_seq (h : dS E ex ts G { P with nx := fun G' => dSN E ex tu G' P N }) : dSN E ex (tSeq ts tu) G P N := fun β A σ H D en w k1 k2 k3 k4 k5 =>
  h β A σ H { D with nx := tu D } en w (fun A' σ' H' G' q en' => q β A' σ' H' D en' w k1 k2 k3 k4 k5) k2 k3 k4
theorem dSN_retO {ds : List D} (i : Nat) (hi : G[i]? = some (.own ds)) (n : N ds) : dSN E ex (tRet (tVar i)) G P N := fun β A σ H D en w k1 k2 k3 k4 k5 => by
  obtain ⟨p, xs, h1, hA, h0, hp, r⟩ := en.at hi
  refine ⟨_, h1, k5 ds p xs A σ H G n en h0.1 h0.2 hp (r.mono (off_le fun a ha => ?_))⟩
  rcases List.mem_cons.mp ha with z | z
  · exact List.mem_append_right _ (z ▸ hA)
  · exact List.mem_append_right _ (en.sub a z)
theorem dSN_retL (h : dL E ex te G fun ds _ => N ds) : dSN E ex (tRet te) G P N := fun β A σ H D en w k1 k2 k3 k4 k5 =>
  h β [] A σ H _ en w fun ds p xs H1 G1 n hp h0 en1 s1 e1 r1 => k5 ds p xs A σ H1 G1 n en1.untmp (fun z => hp (en.sub p z)) h0 e1 (r1.mono (off_le fun a ha => by
    rcases List.mem_cons.mp ha with z | z
    · rw [z]; exact List.mem_cons_self
    · exact List.mem_cons_of_mem _ (en.sub a z)))
def spL (pre : List D → Prop) (R : List D → List D → Prop) : Sp := fun vs H Q _ => ∃ (Z : List Addr) (ds : List D), (∀ a ∈ Z, H a ≠ none) ∧ RpA (Off Z H) vs ds ∧ pre ds ∧ ∀ es p xs H', R ds es → Same H H' → H p = none → H' p = some (.lst xs) → RpA (Off (p :: Z) H') xs es → Q (.ref p) H'
def poNo : Po := { nx := fun _ => False, bk := fun _ => False, ct := fun _ => False, rt := fun _ _ => False }
/-- a def, what it promises, and its text -/
structure ConE (P : Program) (w : World) (K : PySem.W.Frag) (mg : Str → Option Value) (base : Heap) (x : Str) (st : Stmt) (ps : List Str) (k : Nat) (sp : Sp) : Prop where
  ex : ∃ (f : Addr) (fd : FuncData), Fun K x x st f fd ∧ mg x = some (.ref f) ∧ Binds K fd ps [] ∧ FnOk P w K mg base CX0 k f fd ps sp
theorem ConE.con {P : Program} {w : World} {K : PySem.W.Frag} {mg : Str → Option Value} {base : Heap} {x : Str} {st : Stmt} {ps : List Str} {k : Nat} {sp : Sp} (c : ConE P w K mg base x st ps k sp) : Con P w K mg base x ps k sp := by
  obtain ⟨f, fd, F, g, b, h⟩ := c.ex
  exact ⟨f, fd, g, F.kp, b, h⟩
theorem conLE {P : Program} {w : World} {K : PySem.W.Frag} {mg : Str → Option Value} {base : Heap} {x : Str} {st : Stmt} {N ps : List Str} {k : Nat} {pre : List D → Prop} {R : List D → List D → Prop} (h : DefAt K mg x st ps) (S : FnScope N ps (defScope st)) (len : ∀ ds, pre ds → ds.length = ps.length)
    (hbody : ∀ (f : Addr) (cdv : Value) (A : Around) (outer : List PySem.Env) (s : Shared) (H : Hp) (E : XK), Room k (A.deeper (PyProof.Rows.envOfC x (defScope st) s.heap.objs.size f cdv)) →
      ∃ t, PSs (cxOf CX0 P w K mg base N x (defScope st) f cdv A outer s H E).nox (defBody st) t ∧ ∀ ds, pre ds → dSN E0 (fun _ _ => False) t (slots N ds) poNo (R ds)) : ConE P w K mg base x st ps (k + 1) (spL pre R) := by
  obtain ⟨f, fd, F, g, b⟩ := h.ex
  refine ⟨f, fd, F, g, b, ?_⟩
  refine F.ok S (fun vs H Q E h => ?_) (fun cdv A outer s H vs Q E hr h => ?_)
  · obtain ⟨Z, ds, _, r, hp, _⟩ := h
    rw [r.length]
    exact len ds hp
  · obtain ⟨Z, ds, live, r, hp, q⟩ := h
    obtain ⟨t, ht, hd⟩ := hbody f cdv A outer s H E hr
    refine ⟨t, ht, ?_⟩
    have en := entry (N := N) (Z := []) (A0 := Z) (fun a h => by cases h) live r
    have fin : ∀ {A' : List Addr} {σ' : L2.St} {H' : Hp} {G' : List Sl}, Env ⟨[], Z, Off Z H, H⟩ [] A' σ' H' G' → Same H H' := fun {A' σ' H' G'} e => by
      have a := e.all
      rw [off_nil, off_nil] at a
      exact a
    exact hd ds hp ⟨[], Z, Off Z H, H⟩ Z _ H _ en (fun _ _ _ _ _ z => z.elim) (fun _ _ _ _ z _ => z.elim) (fun _ _ _ _ z _ => z.elim) (fun _ _ _ _ z _ => z.elim) (fun _ _ _ _ _ _ z _ _ => z.elim)
      fun es p xs A' σ' H' G' n e hz h0 hp' r' => q es p xs H' n (fin e) h0 hp' r'
theorem conL {P : Program} {w : World} {K : PySem.W.Frag} {mg : Str → Option Value} {base : Heap} {x : Str} {st : Stmt} {N ps : List Str} {k : Nat} {pre : List D → Prop} {R : List D → List D → Prop} (h : DefAt K mg x st ps) (S : FnScope N ps (defScope st)) (len : ∀ ds, pre ds → ds.length = ps.length)
    (hbody : ∀ (f : Addr) (cdv : Value) (A : Around) (outer : List PySem.Env) (s : Shared) (H : Hp) (E : XK), Room k (A.deeper (PyProof.Rows.envOfC x (defScope st) s.heap.objs.size f cdv)) →
      ∃ t, PSs (cxOf CX0 P w K mg base N x (defScope st) f cdv A outer s H E).nox (defBody st) t ∧ ∀ ds, pre ds → dSN E0 (fun _ _ => False) t (slots N ds) poNo (R ds)) : Con P w K mg base x ps (k + 1) (spL pre R) := (conLE h S len hbody).con
theorem dL_callL {pre : List D → Prop} {R : List D → List D → Prop} (h : dA E ex true tr G fun ds G1 => pre ds ∧ ∀ es, R ds es → QA es G1) : dL E ex (tCall (spL pre R) [] E' tr) G QA := fun β T A σ H Qv en w k => by
  refine h β T A σ H _ en w fun ds us H1 G1 ⟨hp, q⟩ en1 s1 r1 => ?_
  rw [List.append_nil]
  refine ⟨T ++ A, ds, en1.live, r1, hp, fun es p xs H2 hR g hn hx r => ?_⟩
  exact k es p xs H2 G1 (q es hR) (fun z => en1.live p z hn) (en1.fresh0 hn) (en1.tmpS g hn (by rw [hx]; simp)) (s1.trans (off_same g)) hx r
/-! ### borrowed, forgotten, told apart -/
/-- a list of one's own, looked at by a test that changes nothing -/
theorem dT_borrow {ds : List D} (i : Nat) (hi : G[i]? = some (.own ds)) (h : dT E ex tt (G.set i (.imm (.lst ds))) fun b G' => G' = G.set i (.imm (.lst ds)) ∧ QB b G) : dT E ex tt G QB := fun β T A σ H Qv en w k => by
  obtain ⟨A', en', _⟩ := en.freeze hi
  refine h β T A' σ H _ en' w fun b H' G' ⟨e, q⟩ en2 s2 => k b H' G q (en.again en2 s2 fun j a n hj => ?_) s2
  rw [e, List.getElem?_set_ne (fun z => ?_)]
  · exact hj
  · rw [← z, hi] at hj; cases hj
/-- told without its place, for a test that changes nothing -/
theorem dT_un {a : Addr} (i : Nat) (hi : G[i]? = some (.imm (.is a d))) (h : dT E ex tt (G.set i (.imm d)) fun b G' => G' = G.set i (.imm d) ∧ QB b G) : dT E ex tt G QB := fun β T A σ H Qv en w k => by
  obtain ⟨v, h1, r⟩ := en.get hi
  cases r with
  | is r =>
    have en' : Env β T A σ H (G.set i (.imm d)) := by
      have := en.set (i := i) r
      have hs : σ.set i (some (V.ref a)) = σ := by
        refine List.ext_getElem? fun j => ?_
        by_cases hj : i = j
        · subst hj
          rw [List.getElem?_set_self (List.getElem?_eq_some_iff.mp h1).1, h1]
        · rw [List.getElem?_set_ne hj]
      rw [hs] at this
      exact this
    refine h β T A σ H _ en' w fun b H' G' ⟨e, q⟩ en2 s2 => k b H' G q (en.again en2 s2 fun j a n hj => ?_) s2
    rw [e, List.getElem?_set_ne (fun z => ?_)]
    · exact hj
    · rw [← z, hi] at hj; cases hj
/-- told as something weaker, for a test that changes nothing -/
theorem dT_as {d' : D} (i : Nat) (hi : G[i]? = some (.imm d)) (hw : ∀ F v, Rp F v d → Rp F v d') (h : dT E ex tt (G.set i (.imm d')) fun b G' => G' = G.set i (.imm d') ∧ QB b G) : dT E ex tt G QB := fun β T A σ H Qv en w k => by
  obtain ⟨v, h1, r⟩ := en.get hi
  have en' : Env β T A σ H (G.set i (.imm d')) := by
    have := en.set (i := i) (hw _ _ r)
    have hs : σ.set i (some v) = σ := by
      refine List.ext_getElem? fun j => ?_
      by_cases hj : i = j
      · subst hj
        rw [List.getElem?_set_self (List.getElem?_eq_some_iff.mp h1).1, h1]
      · rw [List.getElem?_set_ne hj]
    rw [hs] at this
    exact this
  refine h β T A σ H _ en' w fun b H' G' ⟨e, q⟩ en2 s2 => k b H' G q (en.again en2 s2 fun j a n hj => ?_) s2
  rw [e, List.getElem?_set_ne (fun z => ?_)]
  · exact hj
  · rw [← z, hi] at hj; cases hj
def D.boxed : D → Bool
  | .lst _ => true
  | .tup _ => true
  | .dic _ _ => true
  | .ins _ _ _ => true
  | _ => false
/-- told by its place, too -/
theorem dS_is (i : Nat) (hi : G[i]? = some (.imm d)) (hb : d.boxed = true) (h : ∀ a, dS E ex ts (G.set i (.imm (.is a d))) P) : dS E ex ts G P := fun β A σ H D en w k1 k2 k3 k4 => by
  obtain ⟨v, h1, r⟩ := en.get hi
  have key : ∃ a, v = V.ref a := by cases r <;> first | exact ⟨_, rfl⟩ | cases hb
  obtain ⟨a, rfl⟩ := key
  have en' := en.set (i := i) (Rp.is r)
  have hs : σ.set i (some (V.ref a)) = σ := by
    refine List.ext_getElem? fun j => ?_
    by_cases hj : i = j
    · subst hj
      rw [List.getElem?_set_self (List.getElem?_eq_some_iff.mp h1).1, h1]
    · rw [List.getElem?_set_ne hj]
  rw [hs] at en'
  exact h a β A σ H D en' w k1 k2 k3 k4
/-- x, y = a new list, e -/
theorem dS_parO (hij : i ≠ j) (h : dL E ex ta G fun ds G1 => dE E ex true tb G1 fun d G2 => P.nx ((G2.set i (.own ds)).set j (.imm d))) : dS E ex (tPar i j (tCons ta (tCons tb tNil))) G P := fun β A σ H Dn en w k1 _ _ _ => by
  unfold tPar tCons tNil
  refine h β [] A σ H _ en w fun ds p xs H1 G1 q hp h0 en1 s1 e1 r1 => ?_
  refine q β [p] A σ H1 _ en1 w fun d v H2 G2 q2 en2 s2 r2 => ?_
  refine ⟨_, _, rfl, ?_⟩
  have pZ : p ∉ β.Z := fun z => hp (List.mem_append_right _ (en1.sub p (en1.zs p z)))
  have e2 : H2 p = some (.lst xs) := (off_some (s2 p _ (off_of pZ e1))).2
  have en3 := en2.own (i := i) e2 hp h0 (r1.mono (en1.vw s2))
  have go : Same (Off ([p] ++ A) H2) (Off ([] ++ (p :: A)) H2) := Same.refl _
  exact k1 (p :: A) _ H2 _ q2 (en3.set (i := j) (Rp.mono go r2))
/-! ### a list of one's own changes -/
def rInsertA : V → List V → Hp → VK → Prop := fun x vs H Q => ∃ (l : Addr) (xs : List V) (i : Int) (y : V), x = .ref l ∧ vs = [.int i, y] ∧ H l = some (.lst xs) ∧ xs.length < sizeLine ∧ 0 ≤ i ∧ i < 2 ^ 63 ∧
    Q .non (upd H l (.lst (xs.take i.toNat ++ [y] ++ xs.drop i.toNat)))
theorem mt_insertA {X : Cx} : MtR X "list.insert" rInsertA := mt_insert
theorem dS_insert {K : PySem.W.Frag} (h0 : ∃ ds, G[i]? = some (.own ds)) (h : dA E ex true tr G fun es G' => ∃ (n : Nat) (d : D) (ds : List D), es = [.int (n : Int), d] ∧ G'[i]? = some (.own ds) ∧ n ≤ 1000000 ∧ ds.length < 1000000 ∧ P.nx (G'.set i (.own (ds.take n ++ [d] ++ ds.drop n)))) :
    dS E ex (tDrop (tBM K "list" rInsertA (tVar i) tr)) G P := fun β A σ H Dn en w k1 _ _ _ => by
  obtain ⟨ds0, h0⟩ := h0
  obtain ⟨p, xs, h1, hA, hn, hp, r⟩ := en.at h0
  refine ⟨_, h1, .inl ⟨rfl, xs, .inl (.inl hp)⟩, ?_⟩
  refine h β [] A σ H _ en w fun es vs H1 G1 ⟨n, d, ds, ee, hi, hn2, hl, q⟩ en1 s1 r1 => ?_
  subst ee
  cases r1 with
  | cons rn r1 =>
    cases rn
    cases r1 with
    | cons rv rn =>
      cases rn
      obtain ⟨p', xs', h1', hA', hn', hp', r'⟩ := en1.at hi
      rw [h1] at h1'
      cases h1'
      refine ⟨p, xs', (n : Int), _, rfl, rfl, hp', ?_, by omega, by omega, ?_⟩
      · rw [r'.length, sizeLine_eq]; omega
      · exact k1 A σ _ _ q (en1.put hi h1 hA' hn' (((r'.take n).append (.one rv)).append (r'.drop n)))
/-- xs[k] = e -/
theorem dS_setAt {ti : TE} (h0 : ∃ ds, G[i]? = some (.own ds)) (h : dE E ex true te G fun d G1 => (∃ ds, G1[i]? = some (.own ds)) ∧ dE E ex false ti G1 fun y G2 => ∃ (n : Int) (k : Nat) (ds : List D), y = .int n ∧ G2[i]? = some (.own ds) ∧ ixN ds.length n = some k ∧ P.nx (G2.set i (.own (ds.set k d)))) : dS E ex (tAsg te (gSub (tVar i) ti rSetL)) G P := fun β A σ H Dn en w k1 _ _ _ => by
  refine h β [] A σ H _ en w fun d v H1 G1 ⟨⟨ds1, hi1⟩, q⟩ en1 s1 r1 => ?_
  obtain ⟨p, xs, h1, hA, hn, hp, r⟩ := en1.at hi1
  refine ⟨_, h1, ?_⟩
  refine q β [] A σ H1 _ en1 w fun y u H2 G2 ⟨n, k, ds, ey, hi, hk, q2⟩ en2 s2 r2 => ?_
  subst ey
  cases r2
  obtain ⟨p', xs', h1', hA', hn', hp', r'⟩ := en2.at hi
  rw [h1] at h1'
  cases h1'
  refine ⟨p, xs', n, k, rfl, rfl, hp', by rw [r'.length]; exact hk, ?_⟩
  exact k1 A σ _ _ q2 (en2.put hi h1 hA' hn' (r'.set (Rp.mono (en1.vw s2) r1) k))
theorem od_neg {n : Int} : UnD (rU fun i => .int (-i)) (.int n) (.int (-n)) := fun H F u k g r q => by
  cases r
  exact ⟨n, rfl, q _ fun _ => .int _⟩
/-! ### zip -/
theorem dI_zip {K : PySem.W.Frag} (h : dA E ex true tr G fun xs G' => ∃ ds es, ((xs = [.lst ds, .lst es]) ∨ xs = [.tup ds, .tup es]) ∧ ds.length = es.length ∧ QA ((ds.zip es).map fun z => .tup [z.1, z.2]) G') : dI E ex (RZ.iZipA K tr) G QA := fun β T A σ H R en w k => by
  refine h β T A σ H _ en w fun xs us H1 G1 ⟨ds, es, e, hl, q⟩ en1 s1 r1 => ?_
  have mk : ∀ {F : Hp} {a b : Addr} {xs ys : List V} (J : It), RpA F xs ds → RpA F ys es → (∀ i H, i < ds.length → Same F H → J.go i H) → (∀ H, Same F H → J.stop ds.length H) →
      (∀ i H v H', i < ds.length → Same F H → J.yld i H v H' → ∃ T x y, v = .ref T ∧ H T = none ∧ H' = upd H T (.tup [x, y]) ∧ xs[i]? = some x ∧ ys[i]? = some y) → DW F J ((ds.zip es).map fun z => .tup [z.1, z.2]) := fun {F a b xs ys} J ra rb g1 g2 g3 => by
    have hlen : ((ds.zip es).map fun z => D.tup [z.1, z.2]).length = ds.length := by rw [List.length_map, List.length_zip]; omega
    refine ⟨fun i H hi g => g1 i H (by rw [hlen] at hi; exact hi) g, fun H g => by rw [hlen]; exact g2 H g, fun i H v H' hi g y => ?_⟩
    rw [hlen] at hi
    obtain ⟨T, x, u, rfl, hT, rfl, hx, hy⟩ := g3 i H v H' hi g y
    obtain ⟨d, hd, rd⟩ := ra.getV hx
    obtain ⟨e, he, re⟩ := rb.getV hy
    refine ⟨.tup [d, e], ?_, same_new hT, fun Z hz gz => ?_⟩
    · rw [List.getElem?_map, List.getElem?_zip_eq_some.mpr (show ds[i]? = some (d, e).1 ∧ es[i]? = some (d, e).2 from ⟨hd, he⟩)]
      rfl
    · have go : Same F (Off Z (upd H T (.tup [x, u]))) := gz.trans (off_new hT)
      exact .tup (off_of (fun z => hz T z hT) upd_same) (.cons (rd.mono go) (.cons (re.mono go) .nil))
  rcases e with rfl | rfl
  · cases r1 with
    | cons ra rn =>
      cases rn with
      | cons rb rn =>
        cases rn
        cases ra with
        | @lst a xs _ ha ra =>
          cases rb with
          | @lst b ys _ hb rb =>
            have sq : ∀ {H}, Same (Off (T ++ A) H1) H → SqL K H a xs := fun g => .inl (.inl (g _ _ ha))
            have sq' : ∀ {H}, Same (Off (T ++ A) H1) H → SqL K H b ys := fun g => .inl (.inl (g _ _ hb))
            refine ⟨a, b, xs, ys, rfl, .inl ⟨sq off_in, sq' off_in, k _ _ H1 G1 q en1 s1 (mk (a := a) (b := b) _ ra rb (fun i H hi g => ?_) (fun H g => ⟨xs, ys, sq g, sq' g, .inl (by rw [ra.length]; exact Nat.le_refl _)⟩) (fun i H v H' hi g y => ?_))⟩⟩
            · obtain ⟨x, hx, _⟩ := ra.get (List.getElem?_eq_getElem hi)
              obtain ⟨y, hy, _⟩ := rb.get (List.getElem?_eq_getElem (show i < es.length by omega))
              exact ⟨xs, ys, x, y, sq g, sq' g, hx, hy⟩
            · obtain ⟨T, x, y, e1, e2, e3, h1, h2⟩ := y
              exact ⟨T, x, y, e1, e2, e3, h1 xs (sq g), h2 ys (sq' g)⟩
  · cases r1 with
    | cons ra rn =>
      cases rn with
      | cons rb rn =>
        cases rn
        cases ra with
        | @tup a xs _ ha ra =>
          cases rb with
          | @tup b ys _ hb rb =>
            have sq : ∀ {H}, Same (Off (T ++ A) H1) H → SqT K H a xs := fun g => .inl (.inl (g _ _ ha))
            have sq' : ∀ {H}, Same (Off (T ++ A) H1) H → SqT K H b ys := fun g => .inl (.inl (g _ _ hb))
            refine ⟨a, b, xs, ys, rfl, .inr ⟨sq off_in, sq' off_in, k _ _ H1 G1 q en1 s1 (mk (a := a) (b := b) _ ra rb (fun i H hi g => ?_) (fun H g => ⟨xs, ys, sq g, sq' g, .inl (by rw [ra.length]; exact Nat.le_refl _)⟩) (fun i H v H' hi g y => ?_))⟩⟩
            · obtain ⟨x, hx, _⟩ := ra.get (List.getElem?_eq_getElem hi)
              obtain ⟨y, hy, _⟩ := rb.get (List.getElem?_eq_getElem (show i < es.length by omega))
              exact ⟨xs, ys, x, y, sq g, sq' g, hx, hy⟩
            · obtain ⟨T, x, y, e1, e2, e3, h1, h2⟩ := y
              exact ⟨T, x, y, e1, e2, e3, h1 xs (sq g), h2 ys (sq' g)⟩
end
section
variable {X : Cx} {x : Str} {st : Stmt} {ps ks : List Str} {k : Nat} {sp : Sp} {p pos : Pos} {kws : List Keyword} {tk : TA}
/-- f(k = v, ..) -/
theorem pe_conK0 (c : ConE X.prog X.w X.K X.mg X.base x st ps k sp) (ks : List Str) (hb : ∀ (kV doc pm : Value) (an : Option Addr) (cdv ct : Value) (ws : List Value), ws.length = ks.length → bindArgs (PySem.W.fnOf x x (defArgs st) (defBody st) (defScope st) .none kV doc pm an cdv ct) ⟨[], ks.zip ws⟩ = pure (ps.zip ws))
    (hr : Room k X.A) (hg : Gl X x) (hkw : PK X kws tk)
    (hall : (backToKw pos (keywordEach kws X.env)).all (·.1.isSome) = true := by rfl) (hks : (backToKw pos (keywordEach kws X.env)).filterMap (·.1) = ks := by rfl) (hdb : (x == ("__debug__" : Str)) = false := by decide)
    (hpl : ((backTo pos (starEach [] X.env)).any (·.1) || (backToKw pos (keywordEach kws X.env)).any (·.1.isNone)) = false := by rfl) :
    PE X (.Call (.Name x p) [] kws pos) (tCallN 0 ks.length sp (fun vs zs => vs ++ zs) E0 tNil tk) := by
  obtain ⟨f, fd, F, g, b, h⟩ := c.ex
  obtain ⟨oc, od, kV, doc, pm, an, cdv, ct, osl, rfl, lk, hcd⟩ := F.ex
  have hkb : KBn X.K (PySem.W.fnOf x x (defArgs st) (defBody st) (defScope st) .none kV doc pm an cdv ct) ps 0 ks (fun us ws => us ++ ws) (fun vs zs => vs ++ zs) := by
    refine ⟨fun s us ws X0 l1 l2 => ?_, fun r1 r2 => r1.append r2⟩
    cases us with
    | nil => exact .of_eq (hb kV doc pm an cdv ct ws l2)
    | cons u us => cases l1
  refine ⟨fun pins s σ H Q I h' => ?_⟩
  refine wpAny_Call_Name_kw (ld_glob I hg g ?_ hdb)
  refine PySem.W.callWith_KW0 (h₀ := X.base) I.ok.mod.kin F.kp hall ?_ hpl
  refine thn (hkw.run pos pins s σ H _ I h') fun ws s2 ⟨zs, H2, I2, rz, l1, l2, q2⟩ => ⟨I2.kIn, ?_⟩
  rw [hks]
  exact run_fnN (us := []) (vs := []) h hr hkb pass0 I2 .nil rz rfl l2 q2
end
section
variable {E E' : XK} {ex : Addr → D → Prop} {f : Bool} {G : List Sl} {QA : List D → List Sl → Prop} {tr : TA}
theorem dL_callK0 {n : Nat} {pre : List D → Prop} {R : List D → List D → Prop} (h : dA E ex true tr G fun ds G1 => ds.length = n ∧ pre ds ∧ ∀ es, R ds es → QA es G1) : dL E ex (tCallN 0 n (spL pre R) (fun vs zs => vs ++ zs) E' tNil tr) G QA := fun β T A σ H Qv en w k => by
  refine h β T A σ H _ en w fun ds us H1 G1 ⟨hl, hp, q⟩ en1 s1 r1 => ?_
  refine ⟨rfl, by rw [r1.length]; exact hl, T ++ A, ds, en1.live, r1, hp, fun es p xs H2 hR g hn hx r => ?_⟩
  exact k es p xs H2 G1 (q es hR) (fun z => en1.live p z hn) (en1.fresh0 hn) (en1.tmpS g hn (by rw [hx]; simp)) (s1.trans (off_same g)) hx r
end
end Kr
/-! Kr10: dicts, classes in a tuple, purses in a list. -/
namespace Kr
open PySem L2
section
variable {K : PySem.W.Frag} {E E' : XK} {ex : Addr → D → Prop} {f : Bool} {G : List Sl} {te ta tb : TE} {Q : D → List Sl → Prop} {QA : List D → List Sl → Prop} {P : Po} {i j : Nat} {d : D} {tr : TA} {ts : TS}
theorem units1 {k : Nat} {A : Around} (r : Room k A) : A.units + 1 < cLine := by
  have := r.un
  omega
/-- isinstance(x, (A, B)) -/
theorem dE_isiT2 {T1 T2 : String} (h1 : T1 = "str" ∨ T1 = "int" ∨ T1 = "bool" ∨ T1 = "list" ∨ T1 = "tuple" ∨ T1 = "dict") (h2 : T2 = "str" ∨ T2 = "int" ∨ T2 = "bool" ∨ T2 = "list" ∨ T2 = "tuple" ∨ T2 = "dict") (h : dE E ex false te G fun d G1 => d.noIns = true ∧ Q (.bl (d.isa T1 || d.isa T2)) G1) :
    dE E ex f (tCB (rIsiT K) (tCons te (tCons (tTup (tCons (tC (.ty T1)) (tCons (tC (.ty T2)) tNil))) tNil))) G Q := fun β T0 A σ H Qv en w k => by
  refine h β T0 A σ H _ en w fun d u H1 G1 ⟨hn, q⟩ en1 s1 r1 => ?_
  refine ⟨by rw [sizeLine_eq]; exact (by decide : 2 ≤ 16777216), fun p hp => ?_⟩
  have g : Same H1 (upd H1 p (.tup [.ty T1, .ty T2])) := same_new hp
  refine ⟨u, p, [.ty T1, .ty T2], .type d.ty, [.type T1, .type T2], d.isa T1 || d.isa T2, rfl, upd_same, .cons (.ty T1) (.cons (.ty T2) .nil), tyx_d (vw_in.trans g) r1 hn, ?_, k _ _ _ G1 q (en1.grow g) (s1.trans (off_same g)) (.bl _)⟩
  unfold PySem.W.kitAny
  rw [kit_d h1 d hn]
  cases d.isa T1 with
  | true => rfl
  | false =>
    show PySem.W.kitAny K (.type d.ty) [.type T2] = _
    unfold PySem.W.kitAny
    rw [kit_d h2 d hn]
    cases d.isa T2 <;> rfl
/-- flat data are equal to themselves -/
theorem od_eqR (h : d.flat = true) : OpD (rEqA K) d d (.bl true) := fun H F u v k g r1 r2 q => by
  cases r1 with
  | non => cases r2; exact .inl ⟨rfl, by rw [decide_eq_true rfl]; exact q _ fun _ => .bl _⟩
  | bl b => cases r2; exact .inl ⟨rfl, by rw [decide_eq_true rfl]; exact q _ fun _ => .bl _⟩
  | int b => cases r2; exact .inl ⟨rfl, by rw [decide_eq_true rfl]; exact q _ fun _ => .bl _⟩
  | str b => cases r2; exact .inl ⟨rfl, by rw [decide_eq_true rfl]; exact q _ fun _ => .bl _⟩
  | _ => cases h
/-- one pair in a dict -/
theorem dE_disp1 {x : Str} {n : Int} (q : Q (.dic [.inr x] [.int n]) G) : dE E ex f (tDisp [(tC (.str x), tC (.int n))]) G Q := fun β T A σ H Qv en w k p hp => by
  refine ⟨upd_same, [(.inr x, .int n)], rfl, (by decide : 1 ≤ 15), ?_⟩
  have e : upd (upd H p (.dK [])) p (.dK (mergeK [] [(.inr x, V.int n)])) = upd H p (.dK [(.inr x, V.int n)]) := by
    funext b
    by_cases hb : b = p
    · rw [hb, upd_same, upd_same]; rfl
    · rw [upd_ne hb, upd_ne hb, upd_ne hb]
  show Qv (.ref p) (upd (upd H p (.dK [])) p (.dK (mergeK [] [(.inr x, V.int n)])))
  rw [e]
  exact k _ _ _ G q (en.grow (same_new hp)) (off_new hp) (.dic (vs := [.int n]) (en.newf hp) rfl rfl (.one (.int n)))
def rDictP (K : PySem.W.Frag) : List V → Hp → VK → Prop := fun xs H Q => ∃ (a : Addr) (ps : List Addr) (kvs : List (Key × V)), xs = [.ref a] ∧ SqL K H a (ps.map V.ref) ∧ Paired (fun p kv => SqT K H p [kV kv.1, kv.2]) ps kvs ∧
    ∀ p, H p = none → Q (.ref p) (upd H p (.dK (mergeK [] kvs)))
theorem call_dictPA {X : Cx} (hc : X.calm = true) : CallR X (.type "dict") (rDictP X.K) := call_dictP hc
theorem zip_back {α γ : Type} : ∀ l : List (α × γ), l = (l.map (·.1)).zip (l.map (·.2))
  | [] => rfl
  | x :: l => by
    rw [List.map_cons, List.map_cons, List.zip_cons_cons, ← zip_back l]
theorem put_val {P1 : V → Prop} {v : V} (hv : P1 v) {k : Key} {l : List (Key × V)} (h : ∀ x ∈ l, P1 x.2) : ∀ x ∈ putK l k v, P1 x.2 := by
  intro x hx
  unfold putK at hx
  split at hx
  · obtain ⟨y, hy, rfl⟩ := List.mem_map.mp hx
    split
    · exact hv
    · exact h y hy
  · rcases List.mem_append.mp hx with z | z
    · exact h x z
    · rw [List.mem_singleton.mp z]; exact hv
theorem merge_val {P1 : V → Prop} : ∀ (m l : List (Key × V)), (∀ x ∈ m, P1 x.2) → (∀ x ∈ l, P1 x.2) → ∀ x ∈ mergeK l m, P1 x.2
  | [], l, _, h => h
  | y :: m, l, hm, h => merge_val m (putK l y.1 y.2) (fun x hx => hm x (List.mem_cons_of_mem _ hx)) (put_val (hm y List.mem_cons_self) h)
/-- dict(xs), xs pairs of a key and a one -/
theorem dE_dictP (h : dA E ex true tr G fun xs G1 => ∃ ks : List Key, xs = [.lst (ks.map fun k => .tup [kD k, .int 1])] ∧ ∀ ks' ds', ds'.all D.flat = true → ks'.length ≤ ks.length → Q (.dic ks' ds') G1) : dE E ex f (tCB (rDictP K) tr) G Q := fun β T A σ H Qv en w k => by
  refine h β T A σ H _ en w fun xs us H1 G1 ⟨ks, e, q⟩ en1 s1 r1 => ?_
  subst e
  cases r1 with
  | cons r rn =>
    cases rn
    cases r with
    | @lst a xs _ ha ra =>
      have ha' : H1 a = some (.lst xs) := vw_in (f := true) (β := β) (T := T) (A := A) _ _ ha
      have key : ∀ (ks : List Key) (xs : List V), RpA (Vw true β T A H1) xs (ks.map fun k => .tup [kD k, .int 1]) → ∃ ps : List Addr, xs = ps.map V.ref ∧ Paired (fun p kv => SqT K H1 p [kV kv.1, kv.2]) ps (ks.map fun k => (k, V.int 1)) := by
        intro ks
        induction ks with
        | nil => intro xs r; cases r; exact ⟨[], rfl, .nil⟩
        | cons c ks ih =>
          intro xs r
          cases r with
          | cons r rs =>
            obtain ⟨ps, e1, e2⟩ := ih _ rs
            cases r with
            | @tup p ys _ hp rp =>
              have hv : ys = [kV c, .int 1] := by
                cases rp with
                | cons r1 r2 =>
                  cases r2 with
                  | cons r2 r3 =>
                    cases r3
                    cases r2
                    cases c with
                    | inl i => cases r1; rfl
                    | inr i => cases r1; rfl
              subst hv
              have hp' : H1 p = some (.tup [kV c, .int 1]) := vw_in (f := true) (β := β) (T := T) (A := A) _ _ hp
              exact ⟨p :: ps, by rw [e1]; rfl, .cons (.inl (.inl hp')) e2⟩
      obtain ⟨ps, e1, e2⟩ := key ks xs ra
      subst e1
      refine ⟨a, ps, _, rfl, .inl (.inl ha'), e2, fun p hp => ?_⟩
      have hall : ∀ x ∈ mergeK [] (ks.map fun k => (k, V.int 1)), x.2 = .int 1 := merge_val (P1 := fun v => v = .int 1) _ _ (fun x hx => by obtain ⟨y, _, e⟩ := List.mem_map.mp hx; rw [← e]) (fun x hx => by cases hx)
      have hlen := length_mergeK (ks.map fun k => (k, V.int 1)) []
      rw [List.length_map, List.length_nil, Nat.zero_add] at hlen
      have hrp : ∀ (F : Hp) (l : List (Key × V)), (∀ x ∈ l, x.2 = .int 1) → RpA F (l.map (·.2)) (l.map fun _ => D.int 1) := fun F l => by
        induction l with
        | nil => exact fun _ => .nil
        | cons x l ih =>
          intro hx
          refine .cons ?_ (ih fun y hy => hx y (List.mem_cons_of_mem _ hy))
          show Rp F x.2 (.int 1)
          rw [hx x List.mem_cons_self]
          exact .int 1
      refine k (.dic ((mergeK [] (ks.map fun k => (k, V.int 1))).map (·.1)) ((mergeK [] (ks.map fun k => (k, V.int 1))).map fun _ => .int 1)) _ _ G1 (q _ _ ?_ ?_) (en1.grow (same_new hp)) (s1.trans (off_new hp)) (.dic (en1.newf hp) (zip_back _) (by rw [List.length_map, List.length_map]) (hrp _ _ hall))
      · rw [List.all_eq_true]
        intro x hx
        obtain ⟨y, _, rfl⟩ := List.mem_map.mp hx
        rfl
      · rw [List.length_map]
        exact hlen
/-- flat data have one value -/
theorem flat_eq {F F' : Hp} {u v : V} {d : D} (h : d.flat = true) (r1 : Rp F u d) (r2 : Rp F' v d) : u = v := by
  cases r1 <;> first | (cases r2; rfl) | cases h
theorem flats_eq {F F' : Hp} : ∀ {us vs : List V} {ds : List D}, ds.all D.flat = true → RpA F us ds → RpA F' vs ds → us = vs
  | _, _, [], _, .nil, .nil => rfl
  | _, _, d :: ds, h, .cons r1 s1, .cons r2 s2 => by
    rw [List.all_cons, Bool.and_eq_true] at h
    rw [flat_eq h.1 r1 r2, flats_eq h.2 s1 s2]
/-- [f(x[k], y[k]) for k in x], x and y alike and flat, f of equals true -/
theorem dE_keysEq {pre : List D → Prop} {k : Nat} {vs : List Nat} {ks : List Key} {ds : List D} (hvs : vs = [k]) (hk0 : k ≠ 0) (hk1 : k ≠ 1) (h0 : G[0]? = some (.imm (.dic ks ds))) (h1 : G[1]? = some (.imm (.dic ks ds))) (hf : ds.all D.flat = true) (hl : ks.length ≤ 1000)
    (hp : ∀ d : D, d.flat = true → pre [d, d]) (hk : k < G.length) (q : Q (.lst (List.replicate ks.length (.bl true))) G) :
    dE E ex f (tLockE (tLc (iKeys (tVar 0)) (gName k) tYes (tCall (spF pre fun _ => .bl true) [] E' (tCons (tDGet (tVar 0) (tVar k)) (tCons (tDGet (tVar 1) (tVar k)) tNil))) vs)) G Q := fun β T A σ H Qv en w kk => by
  subst hvs
  obtain ⟨v0, s0, r0⟩ := en.get h0
  obtain ⟨v1, s1, r1⟩ := en.get h1
  cases r0 with
  | @dic a kvs _ us _ ha hkv hlen ra =>
    cases r1 with
    | @dic b kvs2 _ us2 _ hb hkv2 hlen2 rb =>
      have eu := flats_eq hf ra rb
      subst eu
      have ekv : kvs2 = kvs := hkv2.trans hkv.symm
      subst ekv
      have ha := (off_some ha).2
      have hb := (off_some hb).2
      have hkl : kvs2.length = ks.length := by rw [hkv, List.length_zip]; omega
      refine ⟨a, .dK kvs2, ha, trivial, fun od => ?_⟩
      have hH1 : ∀ c o, c ≠ a → H c = some o → upd H a (.frz od (.dK kvs2)) c = some o := fun c o hc ho => by rw [upd_ne hc]; exact ho
      refine ⟨_, s0, a, od, rfl, .inl ⟨kvs2, upd_same, fun Dn hD => ?_⟩⟩
      have hDa : Dn ≠ a := fun z => by rw [z, upd_same] at hD; cases hD
      have hDH : H Dn = none := by rw [upd_ne hDa] at hD; exact hD
      refine ⟨fun i m Hc => m = kvs2.length - i ∧ i ≤ kvs2.length ∧ Same (upd H a (.frz od (.dK kvs2))) Hc ∧ Hc Dn = some (.lst (List.replicate i (.bl true))), ⟨kvs2.length, by simp, Nat.zero_le _, same_new hD, upd_same⟩, ?_⟩
      rintro i m Hc ⟨rfl, hi, sm, hDn⟩
      have hca : Hc a = some (.frz od (.dK kvs2)) := sm _ _ upd_same
      by_cases hlt : i < kvs2.length
      · refine .inr ⟨⟨hca, hlt⟩, fun H' => Same (upd H a (.frz od (.dK kvs2))) H' ∧ H' Dn = some (.lst (List.replicate (i + 1) (.bl true))), fun H' z => ⟨kvs2.length - (i + 1), by omega, rfl, hlt, z⟩, fun x H' y => ?_⟩
        obtain ⟨eH, key, v, hkey, rfl⟩ := y
        rw [eH]
        refine ⟨?_, ?_⟩
        · rw [wipe_set List.mem_cons_self]
          show ((σ.set k none).set k none) = _
          rw [List.set_set]
          rfl
        simp only [tYes, if_true]
        have hkσ : k < σ.length := by rw [en.len]; exact hk
        have gk : ((L2.wipe σ [k]).set k (some (kV key)))[k]? = some (some (kV key)) := List.getElem?_set_self (by rw [wipe_length]; exact hkσ)
        have g0 : ((L2.wipe σ [k]).set k (some (kV key)))[0]? = some (some (V.ref a)) := by
          rw [List.getElem?_set_ne hk0, wipe_get (by simp; exact fun z => hk0 z.symm)]
          exact s0
        have g1 : ((L2.wipe σ [k]).set k (some (kV key)))[1]? = some (some (V.ref b)) := by
          rw [List.getElem?_set_ne hk1, wipe_get (by simp; exact fun z => hk1 z.symm)]
          exact s1
        have hany : (valV kvs2 key).isSome = true := by
          rw [← valV_any, List.any_eq_true]
          exact ⟨(key, v), List.mem_of_getElem? hkey, by simp⟩
        obtain ⟨v', hv'⟩ := Option.isSome_iff_exists.mp hany
        obtain ⟨d, hd, rd⟩ : ∃ d : D, d.flat = true ∧ ∀ F, Rp F v' d := by
          have hm : ∃ kv ∈ kvs2, kv.2 = v' := by
            unfold valV at hv'
            obtain ⟨z, hz1, hz2⟩ := Option.map_eq_some_iff.mp hv'
            exact ⟨z, List.mem_of_find?_eq_some hz1, hz2⟩
          obtain ⟨kv, hm1, hm2⟩ := hm
          have hm3 : v' ∈ us := by
            rw [hkv] at hm1
            rw [← hm2]
            exact (List.of_mem_zip hm1).2
          obtain ⟨n, hn⟩ := List.getElem?_of_mem hm3
          obtain ⟨d, hd1, hd2⟩ := ra.getV hn
          have hd3 := List.all_eq_true.mp hf d (List.mem_of_getElem? hd1)
          refine ⟨d, hd3, fun F => ?_⟩
          cases hd2 <;> first | exact .non | exact .bl _ | exact .int _ | exact .str _ | cases hd3
        have dg : ∀ c, (c = a ∨ c = b) → DGet Hc c (kV key) (some v') := fun c hc => by
          refine .inl ⟨kvs2, key, ?_, rfl, hv'.symm⟩
          by_cases hca' : c = a
          · rw [hca']; exact .inr ⟨od, hca⟩
          · rcases hc with z | z
            · exact absurd z hca'
            · rw [z] at hca' ⊢
              exact .inl (sm _ _ (hH1 _ _ hca' hb))
        refine ⟨_, g0, _, gk, a, v', rfl, dg a (.inl rfl), ?_⟩
        refine ⟨_, g1, _, gk, b, v', rfl, dg b (.inr rfl), ?_⟩
        refine ⟨[], [d, d], fun a z => (by cases z), .cons (rd _) (.cons (rd _) .nil), hp d hd, fun w' dd H' hR g' rw' => ?_⟩
        subst hR
        cases rw'
        refine ⟨_, g' _ _ hDn, ?_, ?_, ?_⟩
        · rw [List.length_replicate, sizeLine_eq]; omega
        · exact fun c o z => by
            rw [upd_ne (fun e => by rw [e, hD] at z; cases z)]
            exact g' _ _ (sm _ _ z)
        · rw [upd_same, List.replicate_succ']
      · have e : i = kvs2.length := by omega
        subst e
        refine .inl ⟨⟨hca, Nat.le_refl _⟩, hca, ?_⟩
        have go : Same H (upd Hc a (.dK kvs2)) := fun c o z => by
          by_cases hc : c = a
          · rw [hc, upd_same, ← ha, ← hc]; exact z
          · rw [upd_ne hc]
            exact sm _ _ (hH1 _ _ hc z)
        have hDV : Vw f β T A (upd Hc a (.dK kvs2)) Dn = some (.lst (List.replicate kvs2.length (.bl true))) := by
          have e1 : upd Hc a (.dK kvs2) Dn = some (.lst (List.replicate kvs2.length (.bl true))) := by rw [upd_ne hDa]; exact hDn
          cases f with
          | true => exact off_of (fun z => en.live Dn z hDH) e1
          | false => exact off_of (fun z => en.live Dn (en.a0A Dn z) hDH) e1
        have rr : ∀ (F : Hp) (n : Nat), RpA F (List.replicate n (V.bl true)) (List.replicate n (D.bl true)) := fun F n => by
          induction n with
          | zero => exact .nil
          | succ n ih => exact .cons (.bl true) ih
        refine kk _ _ _ G q (en.grow go) (off_same go) (.lst hDV ?_)
        rw [hkl]
        exact rr _ _
end
end Kr
/-! Kr11: a new list of new purses, and a walk through it. -/
namespace Kr
open PySem L2
/-- a new list of new purses -/
def spPs (pre : List D → Prop) : Sp := fun vs H Q _ => ∃ (Z : List Addr) (ds : List D), (∀ a ∈ Z, H a ≠ none) ∧ RpA (Off Z H) vs ds ∧ pre ds ∧
  ∀ (a : Addr) (ps : List Addr) (H' : Hp), Same H H' → H a = none → H' a = some (.lst (ps.map V.ref)) → (∀ p ∈ ps, H p = none ∧ p ≠ a ∧ Pur H' p 0) → ps.Nodup → Q (.ref a) H'
/-- what a new purse holds -/
def newPur (es : List D) : Prop := ∃ x y t : Int, es = [.int x, .int y, .int 0, .int t] ∧ 0 ≤ x ∧ x < 10 ^ 480 ∧ 0 ≤ y ∧ y < 2147483648 ∧ 0 ≤ t ∧ t < 1000
theorem pur_of {F H : Hp} {p : Addr} {xs : List V} {es : List D} (h : H p = some (.lst xs)) (r : RpA F xs es) (n : newPur es) : Pur H p 0 := by
  obtain ⟨x, y, t, rfl, b⟩ := n
  have e : xs = [.int x, .int y, .int 0, .int t] := RpA.ints (xs := [x, y, 0, t]) r
  subst e
  exact ⟨x, y, 0, t, h, b.1, b.2.1, b.2.2.1, b.2.2.2.1, by decide, by decide, b.2.2.2.2.1, b.2.2.2.2.2⟩
section
variable {K : PySem.W.Frag} {E E' : XK} {G : List Sl} {P : Po} {i : Nat} {tr : TA} {ts : TS} {pre preP : List D → Prop}
theorem raw_purses {ex : Addr → D → Prop} {β : Bs} {A : List Addr} {σ : L2.St} {H : Hp} {Q : VK} {s : D} {vs : List Nat} (en : Env β [] A σ H G) (w : Wish β E ex) (hvs : vs = [i]) (hi : i ≠ 0) (hlen : i < G.length) (h0 : G[0]? = some (.imm s))
    (htr : dA E ex false tr G fun ds G' => ∃ n : Nat, ds = [.int (n : Int)] ∧ n ≤ 1000) (hp : ∀ j : Nat, j < 1000 → preP [s, .int (j : Int)])
    (q : ∀ (a : Addr) (ps : List Addr) (H' : Hp), Same (Off β.Z H) (Off β.Z H') → H a = none → H' a = some (.lst (ps.map V.ref)) → (∀ p ∈ ps, H p = none ∧ p ≠ a ∧ Pur H' p 0) → ps.Nodup → Q (.ref a) H') (hZ : β.Z = []) :
    tLc (iRng1 tr) (gName i) tYes (tCall (spL preP fun _ es => newPur es) [] E' (tCons (tVar 0) (tCons (tVar i) tNil))) vs σ H Q := by
  subst hvs
  obtain ⟨v0, s0, r0⟩ := en.get h0
  have off0 : ∀ F : Hp, Off β.Z F = F := fun F => by rw [hZ]; exact off_nil
  refine htr β [] A σ H _ en w fun ds us H1 G1 ⟨n, e, hn⟩ en1 s1 r1 => ?_
  subst e
  cases r1 with
  | cons r rn =>
    cases rn
    cases r
    have sH : Same H H1 := by
      have z : Same (Off β.Z H) (Off β.Z H1) := s1
      rw [off0, off0] at z
      exact z
    refine ⟨(n : Int), rfl, by omega, by omega, fun Dn hD => ?_⟩
    refine ⟨fun j m Hc => m = n - j ∧ j ≤ n ∧ ∃ ps : List Addr, ps.length = j ∧ Same H1 Hc ∧ Hc Dn = some (.lst (ps.map V.ref)) ∧ (∀ p ∈ ps, H1 p = none ∧ p ≠ Dn ∧ Pur Hc p 0) ∧ ps.Nodup, ⟨n, by simp, Nat.zero_le _, [], rfl, same_new hD, upd_same, (fun p z => by cases z), List.nodup_nil⟩, ?_⟩
    rintro j m Hc ⟨rfl, hj, ps, hl, sm, hDn, hps, nd⟩
    by_cases hlt : j < n
    · refine .inr ⟨hlt, fun H' => ∃ ps : List Addr, ps.length = j + 1 ∧ Same H1 H' ∧ H' Dn = some (.lst (ps.map V.ref)) ∧ (∀ p ∈ ps, H1 p = none ∧ p ≠ Dn ∧ Pur H' p 0) ∧ ps.Nodup, fun H' z => ⟨n - (j + 1), by omega, rfl, hlt, z⟩, fun x H' y => ?_⟩
      obtain ⟨eH, rfl⟩ := y
      rw [eH]
      refine ⟨?_, ?_⟩
      · rw [wipe_set List.mem_cons_self]
        show ((σ.set i none).set i none) = _
        rw [List.set_set]
        rfl
      simp only [tYes, if_true]
      have gi : ((L2.wipe σ [i]).set i (some (V.int (0 + (j : Nat)))))[i]? = some (some (V.int (0 + (j : Nat)))) := List.getElem?_set_self (by rw [wipe_length, en.len]; exact hlen)
      have g0 : ((L2.wipe σ [i]).set i (some (V.int (0 + (j : Nat)))))[0]? = some (some v0) := by
        rw [List.getElem?_set_ne hi, wipe_get (by simp; exact fun z => hi z.symm)]
        exact s0
      refine ⟨_, g0, _, gi, ?_⟩
      have r0' : Rp (Off [] Hc) v0 s := by rw [off_nil]; exact r0.mono ((off_in.trans sH).trans sm)
      refine ⟨[], [s, .int (0 + (j : Nat))], fun a z => (by cases z), .cons r0' (.cons (.int _) .nil), ?_, fun es p xs H2 hR g hn hx r => ?_⟩
      · rw [Int.zero_add]
        exact hp j (by omega)
      have pD : p ≠ Dn := fun z => by rw [z, hDn] at hn; cases hn
      have hpn : H1 p = none := by
        cases e : H1 p with
        | none => rfl
        | some o => rw [sm _ _ e] at hn; cases hn
      have hpp : p ∉ ps := fun z => by
        obtain ⟨_, _, x, y, zz, t, e, _⟩ := hps p z
        rw [e] at hn; cases hn
      refine ⟨ps.map V.ref, g _ _ hDn, by rw [List.length_map, sizeLine_eq]; omega, ps ++ [p], by rw [List.length_append, hl]; rfl, fun b o z => ?_, ?_, fun p' hp' => ?_, ?_⟩
      · rw [upd_ne (fun e => by rw [e, hD] at z; cases z)]
        exact g _ _ (sm _ _ z)
      · rw [upd_same, List.map_append]
        rfl
      · rcases List.mem_append.mp hp' with z | z
        · obtain ⟨a1, a2, x, y, zz, t, e, b⟩ := hps p' z
          exact ⟨a1, a2, x, y, zz, t, by rw [upd_ne a2]; exact g _ _ e, b⟩
        · rw [List.mem_singleton.mp z]
          obtain ⟨x, y, zz, t, e, b⟩ := pur_of hx r hR
          exact ⟨hpn, pD, x, y, zz, t, by rw [upd_ne pD]; exact e, b⟩
      · rw [List.nodup_append]
        refine ⟨nd, by simp, fun a ha b hb e => ?_⟩
        rw [List.mem_singleton.mp hb] at e
        exact hpp (e ▸ ha)
    · have e : j = n := by omega
      subst e
      refine .inl ⟨by show (j : Int).toNat ≤ j; omega, q Dn ps Hc ?_ ?_ hDn (fun p hp => ?_) nd⟩
      · rw [off0, off0]; exact sH.trans sm
      · cases e : H Dn with
        | none => rfl
        | some o => rw [sH _ _ e] at hD; cases hD
      · obtain ⟨a1, a2, a3⟩ := hps p hp
        refine ⟨?_, a2, a3⟩
        cases e : H p with
        | none => rfl
        | some o => rw [sH _ _ e] at a1; cases a1
theorem conPs {Pg : Program} {w : World} {mg : Str → Option Value} {base : Heap} {x : Str} {st : Stmt} {N ps : List Str} {k : Nat} (h : DefAt K mg x st ps) (S : FnScope N ps (defScope st)) (len : ∀ ds, pre ds → ds.length = ps.length)
    (hbody : ∀ (f : Addr) (cdv : Value) (A : Around) (outer : List PySem.Env) (s : Shared) (H : Hp) (E : XK), Room k (A.deeper (PyProof.Rows.envOfC x (defScope st) s.heap.objs.size f cdv)) →
      ∃ te, PSs (cxOf CX0 Pg w K mg base N x (defScope st) f cdv A outer s H E).nox (defBody st) (tRet te) ∧ ∀ ds, pre ds → ∀ (β : Bs) (A : List Addr) (σ : L2.St) (H : Hp) (Q : VK), β.Z = [] → Env β [] A σ H (slots N ds) →
        (∀ (a : Addr) (ps : List Addr) (H' : Hp), Same (Off β.Z H) (Off β.Z H') → H a = none → H' a = some (.lst (ps.map V.ref)) → (∀ p ∈ ps, H p = none ∧ p ≠ a ∧ Pur H' p 0) → ps.Nodup → Q (.ref a) H') → te σ H Q) : Con Pg w K mg base x ps (k + 1) (spPs pre) := by
  obtain ⟨f, fd, F, g, b⟩ := h.ex
  refine ⟨f, fd, g, F.kp, b, ?_⟩
  refine F.ok S (fun vs H Q E h => ?_) (fun cdv A outer s H vs Q E hr h => ?_)
  · obtain ⟨Z, ds, _, r, hp, _⟩ := h
    rw [r.length]
    exact len ds hp
  · obtain ⟨Z, ds, live, r, hp, q⟩ := h
    obtain ⟨te, ht, hd⟩ := hbody f cdv A outer s H E hr
    refine ⟨_, ht, ?_⟩
    have en := entry (N := N) (Z := []) (A0 := Z) (fun a h => by cases h) live r
    refine hd ds hp ⟨[], Z, Off Z H, H⟩ Z _ H _ rfl en fun a ps H' g h1 h2 h3 h4 => q a ps H' ?_ h1 h2 h3 h4
    rw [off_nil, off_nil] at g
    exact g
theorem dS_forPs (hG : ∀ s ∈ G, s.isOwn = false) (hi : G[i]? = some .any) (h : dA E (fun _ _ => False) true tr G fun ds G1 => pre ds ∧ G1 = G)
    (hb : ∀ p, dS E (fun _ _ => False) ts (G.set i (.pur p 0)) { nx := fun G' => ∃ n, G' = G.set i (.pur p n), ct := fun G' => ∃ n, G' = G.set i (.pur p n), bk := fun _ => False, rt := fun d _ => ∀ G', P.rt d G' }) (fin : P.nx G) :
    dS E (fun _ _ => False) (tFor (iList K (tCall (spPs pre) [] E' tr)) (gName i) ts) G P := fun β A σ H Dn en w k1 k2 k3 k4 => by
  refine h β [] A σ H _ en w fun ds us H1 G1 ⟨hp, eG⟩ en1 s1 r1 => ?_
  subst eG
  rw [List.append_nil]
  refine ⟨[] ++ A, ds, en1.live, r1, hp, fun a ps H2 g ha hl hps nd => ?_⟩
  have go : Same (Off ([] ++ A) H1) (Off ([] ++ (ps ++ A)) H2) := fun b x z => by
    obtain ⟨z1, z2⟩ := off_some z
    refine off_of (fun y => ?_) (g _ _ z2)
    rcases List.mem_append.mp (show b ∈ ps ++ A from y) with y | y
    · rw [(hps b y).1] at z2; cases z2
    · exact z1 y
  have en2 : Env β [] (ps ++ A) σ H2 G1 := by
    refine ⟨en1.len, fun j s hs => ?_, en1.dis, fun b x z => go _ _ (en1.base _ _ z), fun b hb' => List.mem_append_right _ (en1.sub b hb'), en1.zs, fun b hb' z => ?_, fun b _ z => (by cases z), en1.all.trans (off_same g)⟩
    · obtain ⟨o, q1, q2⟩ := en1.ok j s hs
      have hno := hG s (List.mem_of_getElem? hs)
      refine ⟨o, q1, ?_⟩
      cases s with
      | any => trivial
      | imm d => obtain ⟨v, h3, h4⟩ := q2; exact ⟨v, h3, h4.mono go⟩
      | own ds => cases hno
      | pur a n => cases hno
      | exc a dd d => obtain ⟨h3, v, h4, h5⟩ := q2; exact ⟨h3, v, go _ _ h4, h5.mono go⟩
      | oat a ds => cases hno
    · rcases List.mem_append.mp (show b ∈ ps ++ A from hb') with y | y
      · obtain ⟨_, _, x1, x2, x3, x4, e, _⟩ := hps b y
        rw [e] at z; cases z
      · cases e : H1 b with
        | none => exact en1.live b y e
        | some o => rw [g _ _ e] at z; cases z
  have W := walk_list (K := K) (a := a) (xs := ps.map V.ref)
  refine ⟨a, rfl, ⟨_, .inl (.inl hl)⟩, ?_⟩
  refine ⟨fun j m σ' H' => m = ps.length - j ∧ j ≤ ps.length ∧ Env β [] (ps ++ A) σ' H' G1 ∧ (∀ (q : Nat) (p : Addr), j ≤ q → ps[q]? = some p → Pur H' p 0) ∧ H' a = some (.lst (ps.map V.ref)), ⟨ps.length, by simp, Nat.zero_le _, en2, fun q p _ hq => (hps p (List.mem_of_getElem? hq)).2.2, hl⟩, ?_⟩
  rintro j m σ2 H' ⟨rfl, hj, enJ, hpu, hla⟩
  have sq : SqL K H' a (ps.map V.ref) := .inl (.inl hla)
  by_cases hlt : j < ps.length
  · refine .inr ⟨W.goes j H' (by rw [List.length_map]; exact hlt) sq, fun σ' H'' => Env β [] (ps ++ A) σ' H'' G1 ∧ (∀ (q : Nat) (p : Addr), j + 1 ≤ q → ps[q]? = some p → Pur H'' p 0) ∧ H'' a = some (.lst (ps.map V.ref)), fun σ' H'' z => ⟨ps.length - (j + 1), by omega, rfl, hlt, z⟩, fun x Hx y => ?_⟩
    obtain ⟨eH, hx⟩ := W.yields j H' x Hx (by rw [List.length_map]; exact hlt) sq y
    rw [eH]
    have hpj : ps[j]? = some ps[j] := List.getElem?_eq_getElem hlt
    rw [List.getElem?_map, hpj] at hx
    have hx := (Option.some.inj hx).symm
    subst hx
    generalize hpe : ps[j] = p at *
    have hpm : p ∈ ps := List.mem_of_getElem? hpj
    have hpA : p ∈ ps ++ A := List.mem_append_left _ hpm
    have hp0 := hpu j p (Nat.le_refl _) hpj
    have hH0 : β.H0 p = none := en1.fresh0 (hps p hpm).1
    have hiG : i < G1.length := (List.getElem?_eq_some_iff.mp hi).1
    have enB : Env ⟨[p], ps ++ A, Off ([] ++ (ps ++ A)) H', H'⟩ [] (ps ++ A) (σ2.set i (some (.ref p))) H' (G1.set i (.pur p 0)) := by
      refine ⟨by rw [List.length_set, List.length_set]; exact enJ.len, fun q s hs => ?_, fun q q' s s' b h1 h2 o1 o2 _ _ => ?_, Same.refl _, fun b hb' => hb', fun b hb' => ?_, enJ.live, enJ.dj, Same.refl _⟩
      · rcases set_get hs with ⟨rfl, rfl, _⟩ | ⟨hq, hs⟩
        · exact ⟨_, List.getElem?_set_self (by rw [enJ.len]; exact hiG), rfl, List.mem_singleton.mpr rfl, hp0⟩
        · obtain ⟨o, q1, q2⟩ := enJ.ok q s hs
          have hno := hG s (List.mem_of_getElem? hs)
          refine ⟨o, by rw [List.getElem?_set_ne (Ne.symm hq)]; exact q1, ?_⟩
          cases s with
          | any => trivial
          | imm d => exact q2
          | own ds => cases hno
          | pur a n => cases hno
          | exc a dd d => exact q2
          | oat a ds => cases hno
      · have only : ∀ {q : Nat} {s : Sl}, (G1.set i (.pur p 0))[q]? = some s → s.isOwn = true → q = i := fun {q s} hs ho => by
          rcases set_get hs with ⟨rfl, _, _⟩ | ⟨_, hs⟩
          · rfl
          · rw [hG s (List.mem_of_getElem? hs)] at ho; cases ho
        rw [only h1 o1, only h2 o2]
      · rw [List.mem_singleton.mp hb']; exact hpA
    have back : ∀ {A3 : List Addr} {σ3 : L2.St} {H3 : Hp} {G3 G4 : List Sl}, Env ⟨[p], ps ++ A, Off ([] ++ (ps ++ A)) H', H'⟩ [] A3 σ3 H3 G3 → G4.length = G3.length → (∀ (q : Nat) (s : Sl), G4[q]? = some s → s = .any ∨ (G3[q]? = some s ∧ s.isOwn = false)) → Env β [] (ps ++ A) σ3 H3 G4 := fun {A3 σ3 H3 G3 G4} e hlen hsl => by
      have up : Same (Off ([] ++ A3) H3) (Off ([] ++ (ps ++ A)) H3) := off_le fun b hb' => e.sub b hb'
      refine ⟨e.len.trans hlen.symm, fun q s hs => ?_, fun q q' s s' b h1 _ o1 _ _ _ => ?_, (enJ.base.trans e.base).trans up, fun b hb' => List.mem_append_right _ (en1.sub b hb'), enJ.zs, fun b hb' => e.live b (e.sub b hb'), fun b _ z => (by cases z), fun b x z => ?_⟩
      · rcases hsl q s hs with rfl | ⟨h3, hno⟩
        · have hq := (List.getElem?_eq_some_iff.mp hs).1
          exact ⟨σ3[q]'(by rw [e.len, ← hlen]; exact hq), List.getElem?_eq_getElem _, trivial⟩
        · obtain ⟨o, q1, q2⟩ := e.ok q s h3
          refine ⟨o, q1, ?_⟩
          cases s with
          | any => trivial
          | imm d => obtain ⟨v, h5, h6⟩ := q2; exact ⟨v, h5, h6.mono up⟩
          | own ds => cases hno
          | pur a n => cases hno
          | exc a dd d => obtain ⟨h5, v, h6, h7⟩ := q2; exact ⟨h5, v, up _ _ h6, h7.mono up⟩
          | oat a ds => cases hno
      · rcases hsl q s h1 with rfl | ⟨_, hno⟩
        · cases o1
        · rw [hno] at o1; cases o1
      · obtain ⟨z1, z2⟩ := off_some z
        have hbp : b ≠ p := fun y => by rw [y, hH0] at z2; cases z2
        have z3 := enJ.all b x z
        exact off_of z1 (off_some (e.all b x (off_of (fun y => hbp (List.mem_singleton.mp y)) (off_some z3).2))).2
    have keepP : ∀ {A3 : List Addr} {σ3 : L2.St} {H3 : Hp} {G3 : List Sl}, Env ⟨[p], ps ++ A, Off ([] ++ (ps ++ A)) H', H'⟩ [] A3 σ3 H3 G3 → ∀ b o, b ≠ p → H' b = some o → H3 b = some o := fun {A3 σ3 H3 G3} e b o hb' ho =>
      (off_some (e.all b o (off_of (fun y => hb' (List.mem_singleton.mp y)) ho))).2
    have nxt : ∀ (A3 : List Addr) (σ3 : L2.St) (H3 : Hp) (G3 : List Sl), (∃ n, G3 = G1.set i (.pur p n)) → Env ⟨[p], ps ++ A, Off ([] ++ (ps ++ A)) H', H'⟩ [] A3 σ3 H3 G3 → Env β [] (ps ++ A) σ3 H3 G1 ∧ (∀ (q : Nat) (p' : Addr), j + 1 ≤ q → ps[q]? = some p' → Pur H3 p' 0) ∧ H3 a = some (.lst (ps.map V.ref)) := fun A3 σ3 H3 G3 ⟨n, eG⟩ e => by
      subst eG
      refine ⟨back e (by rw [List.length_set]) fun q s hs => ?_, fun q p' hq hp' => ?_, keepP e _ _ (fun z => (hps p hpm).2.1 z.symm) hla⟩
      · by_cases hqi : q = i
        · rw [hqi, hi] at hs
          exact .inl (Option.some.inj hs).symm
        · exact .inr ⟨by rw [List.getElem?_set_ne (Ne.symm hqi)]; exact hs, hG s (List.mem_of_getElem? hs)⟩
      · have hne : p' ≠ p := fun z => by
          rw [z] at hp'
          obtain ⟨l1, e1⟩ := List.getElem?_eq_some_iff.mp hp'
          obtain ⟨l2, e2⟩ := List.getElem?_eq_some_iff.mp hpj
          exact (List.pairwise_iff_getElem.mp nd) j q l2 l1 (by omega) (by rw [e1, e2])
        obtain ⟨x1, x2, x3, x4, e1, b⟩ := hpu q p' (by omega) hp'
        exact ⟨x1, x2, x3, x4, keepP e _ _ hne e1, b⟩
    exact hb p ⟨[p], ps ++ A, Off ([] ++ (ps ++ A)) H', H'⟩ (ps ++ A) _ H' _ enB (fun _ _ _ _ _ z => z.elim) (fun A3 σ3 H3 G3 z e => nxt A3 σ3 H3 G3 z e) (fun _ _ _ _ z _ => z.elim) (fun A3 σ3 H3 G3 z e => nxt A3 σ3 H3 G3 z e)
      fun d v A3 σ3 H3 G3 hr e r => k4 d v (ps ++ A) σ3 H3 (List.replicate G3.length .any) (hr _) (back e (by rw [List.length_replicate]) fun q s hs => by
        rw [List.getElem?_replicate] at hs
        split at hs
        · exact .inl (Option.some.inj hs).symm
        · cases hs) (r.mono (off_le fun b hb' => List.mem_append_right _ (en1.sub b hb')))
  · have e : j = ps.length := by omega
    subst e
    have st := W.stops H' sq
    rw [List.length_map] at st
    exact .inl ⟨st, k1 (ps ++ A) σ2 H' G1 fin enJ⟩
end
end Kr
/-! Kr12: the very list that was refused. -/
namespace Kr
open PySem L2
/-- flat, or a list of flat things -/
def shallow (d : D) : Prop := d.flat = true ∨ ∃ m, d = .lst m ∧ m.all D.flat = true
theorem flat_any {F F' : Hp} {v : V} {d : D} (h : d.flat = true) (r : Rp F v d) : Rp F' v d := by
  cases r <;> first | exact .non | exact .bl _ | exact .int _ | exact .str _ | cases h
theorem flats_any {F F' : Hp} : ∀ {vs : List V} {ds : List D}, ds.all D.flat = true → RpA F vs ds → RpA F' vs ds
  | _, [], _, .nil => .nil
  | _, d :: ds, h, .cons r s => by
    rw [List.all_cons, Bool.and_eq_true] at h
    exact .cons (flat_any h.1 r) (flats_any h.2 s)
theorem flat_noref {F : Hp} {a : Addr} {d : D} (h : d.flat = true) (r : Rp F (.ref a) d) : False := by
  cases r <;> cases h
/-- what a list holds stands though the list changes -/
theorem shallow_keep {F H : Hp} {a : Addr} {xs : List V} {o : HO} (hF : Same F H) (ha : H a = some (.lst xs)) : ∀ {ys : List V} {l : List D}, (∀ y ∈ ys, y ∈ xs) → (∀ d ∈ l, shallow d) → RpA F ys l → RpA (upd H a o) ys l
  | _, [], _, _, .nil => .nil
  | v :: vs, d :: l, hy, h, .cons r s => by
    refine .cons ?_ (shallow_keep hF ha (fun y z => hy y (List.mem_cons_of_mem _ z)) (fun e he => h e (List.mem_cons_of_mem _ he)) s)
    rcases h d List.mem_cons_self with hf | ⟨m, rfl, hm⟩
    · exact flat_any hf r
    · cases r with
      | @lst b zs _ hb rb =>
        have hb' := hF _ _ hb
        have hne : b ≠ a := fun z => by
          subst z
          rw [ha] at hb'
          have e : xs = zs := by cases hb'; rfl
          have hin : V.ref b ∈ zs := e ▸ hy _ List.mem_cons_self
          obtain ⟨n, hn⟩ := List.getElem?_of_mem hin
          obtain ⟨d, hd1, hd2⟩ := rb.getV hn
          exact flat_noref (List.all_eq_true.mp hm d (List.mem_of_getElem? hd1)) hd2
        exact .lst (by rw [upd_ne hne]; exact hb') (flats_any hm rb)
theorem dS_veryList {K : PySem.W.Frag} {E E' : XK} {ex : Addr → D → Prop} {G : List Sl} {P : Po} {a : Addr} {l : List D} {x y : Str} {pre : List D → Prop} (h0 : G[0]? = some (.imm (.tup [.str x, .is a (.lst l)]))) (h1 : G[1]? = some (.imm (.is a (.lst l)))) (h2 : 2 < G.length)
    (hs : ∀ d ∈ l, shallow d) (hl : l.length ≤ 1000) (hp : pre [.lst (l ++ [.str y]), .lst (l ++ [.str y])]) (hP : P.rt (.bl true) (G.set 2 (.imm (.bl true)))) :
    dS E ex (tSeq (tDrop (tBM K "list" rAppend (tVar 1) (tCons (tC (.str y)) tNil))) (tSeq (tAsg (tCall (spF pre fun _ => .bl true) [] E' (tCons (tOp (rIx K) (tVar 0) (tC (.int 1))) (tCons (tVar 1) tNil))) (gName 2)) (tSeq (tDrop (tBM0 K "list" rPop (tVar 1))) (tRet (tVar 2))))) G P := fun β A σ H Dn en w k1 k2 k3 k4 => by
  obtain ⟨v0, s0, r0⟩ := en.get h0
  obtain ⟨v1, s1, r1⟩ := en.get h1
  cases r1 with
  | is r1 =>
    cases r1 with
    | @lst _ xs _ ha ra =>
      cases r0 with
      | @tup t ys _ ht rt =>
        have eys : ys = [.str x, .ref a] := by
          cases rt with
          | cons rx rs =>
            cases rx
            cases rs with
            | cons ry rn =>
              cases rn
              cases ry
              rfl
        subst eys
        have hF : Same (Off ([] ++ A) H) H := off_in
        have ha' := hF _ _ ha
        have ht' := hF _ _ ht
        have hta : t ≠ a := fun z => by rw [z, ha'] at ht'; cases ht'
        have hlen : xs.length = l.length := ra.length
        refine ⟨_, s1, .inl ⟨rfl, xs, .inl (.inl ha')⟩, ?_⟩
        refine ⟨a, xs, _, rfl, rfl, ha', by rw [hlen, sizeLine_eq]; omega, ?_⟩
        refine ⟨_, s0, .inr (.inl ⟨t, [.str x, .ref a], 1, .ref a, rfl, rfl, .inl (.inl (by rw [upd_ne hta]; exact ht')), rfl, ?_⟩)⟩
        refine ⟨_, s1, ?_⟩
        have rl : Rp (Off [] (upd H a (HO.lst (xs ++ [V.str y])))) (.ref a) (.lst (l ++ [.str y])) := by
          rw [off_nil]
          exact .lst upd_same ((shallow_keep hF ha' (fun _ z => z) hs ra).append (RpA.one (Rp.str y)))
        refine ⟨[], _, fun b z => (by cases z), .cons rl (.cons rl .nil), hp, fun v d H3 hd g r => ?_⟩
        subst hd
        cases r
        have h3a : H3 a = some (HO.lst (xs ++ [V.str y])) := g _ _ upd_same
        have s1' : (σ.set 2 (some (V.bl true)))[1]? = some (some (V.ref a)) := by
          rw [List.getElem?_set_ne (by decide)]
          exact s1
        refine ⟨_, s1', .inl ⟨rfl, _, .inl (.inl h3a)⟩, a, xs ++ [.str y], .str y, rfl, rfl, h3a, by simp, ?_⟩
        have s2' : (σ.set 2 (some (V.bl true)))[2]? = some (some (V.bl true)) := List.getElem?_set_self (by rw [en.len]; exact h2)
        refine ⟨_, s2', ?_⟩
        have g4 : Same H (upd H3 a (HO.lst (xs ++ [V.str y]).dropLast)) := fun b o z => by
          by_cases hb : b = a
          · rw [hb, upd_same, List.dropLast_concat, ← ha', ← hb]; exact z
          · rw [upd_ne hb]
            exact g _ _ (by rw [upd_ne hb]; exact z)
        exact k4 (.bl true) _ A _ _ _ hP ((en.grow g4).set (i := 2) (.bl true)) (.bl _)
end Kr
/-! Kr13: tuple(x), == of plain lists. -/
namespace Kr
open PySem L2
section
variable {K : PySem.W.Frag} {E : XK} {ex : Addr → D → Prop} {f : Bool} {G : List Sl} {Q : D → List Sl → Prop} {tr : TA}
def rTupOf (K : PySem.W.Frag) : List V → Hp → VK → Prop := fun xs H Q => ∃ p ys, xs = [.ref p] ∧ ((SqL K H p ys ∧ ∀ l, H l = none → Q (.ref l) (upd H l (.tup ys))) ∨ (SqT K H p ys ∧ Q (.ref p) H))
theorem call_tupleA {X : Cx} : CallR X (.type "tuple") (rTupOf X.K) := call_tuple_of
/-- tuple(x) of a list -/
theorem dE_tupOf (h : dA E ex f tr G fun xs G1 => ∃ ds, xs = [.lst ds] ∧ Q (.tup ds) G1) : dE E ex f (tCB (rTupOf K) tr) G Q := fun β T A σ H Qv en w k => by
  refine h β T A σ H _ en w fun xs us H1 G1 ⟨ds, e, q⟩ en1 s1 r1 => ?_
  subst e
  cases r1 with
  | cons r rn =>
    cases rn
    cases r with
    | @lst a xs _ ha ra =>
      refine ⟨a, xs, rfl, .inl ⟨.inl (.inl (vw_in _ _ ha)), fun p hp => ?_⟩⟩
      exact k _ _ _ G1 q (en1.grow (same_new hp)) (s1.trans (off_new hp)) (.tup (en1.newf hp) (ra.mono (vw_new hp)))
end
/-- told by its place where it has one -/
theorem dS_isE {P : Po} {ts : TS} {d : D} {E : XK} {ex : Addr → D → Prop} {G : List Sl} (i : Nat) (hi : G[i]? = some (.imm d)) (h : ∀ dv, ((d.boxed = false ∧ dv = d) ∨ (d.boxed = true ∧ ∃ a, dv = .is a d)) → dS E ex ts (G.set i (.imm dv)) P) : dS E ex ts G P := by
  cases hb : d.boxed with
  | true => exact dS_is i hi hb fun a => h _ (.inr ⟨hb, a, rfl⟩)
  | false =>
    have := h d (.inl ⟨hb, rfl⟩)
    have e : G.set i (.imm d) = G := by
      refine List.ext_getElem? fun j => ?_
      by_cases hj : i = j
      · subst hj
        rw [List.getElem?_set_self (List.getElem?_eq_some_iff.mp hi).1, hi]
      · rw [List.getElem?_set_ne hj]
    rw [e] at this
    exact this
theorem nats_mem {n : Nat} {d : D} (h : d ∈ nats 0 n) : ∃ i : Nat, i < n ∧ d = .int (i : Nat) := by
  unfold nats at h
  obtain ⟨i, hi, rfl⟩ := List.mem_map.mp h
  exact ⟨i, List.mem_range.mp hi, by rw [Int.zero_add]⟩
theorem cutD_mem {l : List D} {lo hi : Option Int} {d : D} (h : d ∈ cutD l lo hi) : d ∈ l := List.mem_of_mem_drop (List.mem_of_mem_take h)
theorem cutD_len (l : List D) (lo hi : Option Int) : (cutD l lo hi).length ≤ l.length := by
  unfold cutD
  rw [List.length_take, List.length_drop]
  omega
theorem eqv_strs : ∀ a b : List Str, D.eq (.lst (a.map D.str)) (.lst (b.map D.str)) = decide (a = b)
  | [], [] => by
    show PyData.eqv (.list []) (.list []) = _
    simp [PyData.eqv, PyData.eqvAll]
  | [], y :: b => by
    show PyData.eqv (.list []) (.list (.str y :: D.toPs (b.map D.str))) = _
    simp [PyData.eqv, PyData.eqvAll]
  | x :: a, [] => by
    show PyData.eqv (.list (.str x :: D.toPs (a.map D.str))) (.list []) = _
    simp [PyData.eqv, PyData.eqvAll]
  | x :: a, y :: b => by
    have ih := eqv_strs a b
    have ih' : PyData.eqv (.list (D.toPs (a.map D.str))) (.list (D.toPs (b.map D.str))) = decide (a = b) := ih
    show PyData.eqv (.list (.str x :: D.toPs (a.map D.str))) (.list (.str y :: D.toPs (b.map D.str))) = _
    simp only [PyData.eqv, PyData.eqvAll] at ih' ⊢
    rw [ih', Bool.eq_iff_iff]
    simp
end Kr
/-! # Own errors made as values: Cn(x), Cn(value=x), Cn() -/
namespace PySem
namespace Kex
open PySem.W PySem.Calls PyProof.Rows PySem.HandSPX
section
variable {M : Model} {A : Around} {E : Value → Shared → Prop} {h : Heap} {g : Array GenState} {d : Drawn} {t : Nat} {os : OsState}
variable {nm q : Str} {C N : Addr} {bs bm bmB : List Value} {hdct : Bool} {sn : List Str} {sub : List Value} {ab : Bool} {col : Option Bool} {dd : Option Addr} {k0 k1 k2 k3 k5 : Option Value} {B newId initId : String}
theorem kwNewOk (X : ExcBaseFacts B newId initId bmB) (tl : ∀ T : String, bm.contains (.type T) = bmB.contains (.type T)) {us : List Value} {kw : List (Str × Value)} {Q : Unit → Shared → Prop}
    (oC : h.get? C = some (excClassObj nm q C N bs bm hdct sn sub ab col dd k0 k1 k2 k3 k5 newId)) (fin : Q () ⟨h, g, d, t, os⟩) : wpAny M A (checkBuiltinCall newId ⟨.ref C :: us, kw⟩) Q E ⟨h, g, d, t, os⟩ := by
  have isB : (Value.ref C :: bm).contains (.type B) = true := by
    rw [List.contains_cons, tl, X.hasB, Bool.or_true]
  have := X.noStar
  simp only [checkBuiltinCall, X.newKind, X.newSplit, X.newRow]
  repeat (first | refine wpAny_loadPart_at oC ?_ | (refine wpAny_isSubtype_exc oC ?_; rw [isB]) | refine wpAny_staticBase_exc oC ?_ | refine wpAny_madeBy_exc oC ?_ | simp only [bne_self_eq_false, Bool.false_eq_true, if_false] | wp_step)
  exact fin
end
section
variable {prog : Program} {w : World} {A : Around} {E : Value → Shared → Prop} {R : Result → Shared → Prop} {h : Heap} {g : Array GenState} {d : Drawn} {t : Nat} {os : OsState}
variable {nm q : Str} {C N : Addr} {bs bm bmB : List Value} {hdct : Bool} {sn : List Str} {sub : List Value} {ab : Bool} {col : Option Bool} {dd : Option Addr} {k0 k1 k2 k3 k5 : Option Value} {B newId initId : String}
/-- the new object behind BaseException.__new__ -/
def laidX (h : Heap) (C : Addr) (us : List Value) : Heap := (h.push { cls := .type "tuple", data := .seq us.toArray }).push (excO C h.objs.size)
theorem laidX_keep {h : Heap} {C : Addr} {us : List Value} : ∀ b o, h.get? b = some o → (laidX h C us).get? b = some o := fun b o e => Heap.get?_push_of_some _ (Heap.get?_push_of_some _ e)
theorem kwNewDone (X : ExcBaseFacts B newId initId bmB) (tl : ∀ T : String, bm.contains (.type T) = bmB.contains (.type T)) {us : List Value} {kw : List (Str × Value)}
    (oC : h.get? C = some (excClassObj nm q C N bs bm hdct sn sub ab col dd k0 k1 k2 k3 k5 newId)) (fin : R (.ok (.ret (.ref (h.objs.size + 1)))) ⟨laidX h C us, g, d, t, os⟩) (small : us.length ≤ sizeLine) :
    codeAny (model prog w) A (.builtin newId ⟨.ref C :: us, kw⟩) R ⟨h, g, d, t, os⟩ := by
  have en := X.ends
  have has : ∀ {T : String} {b : Bool}, bmB.contains (.type T) = b → (Value.ref C :: bm).contains (.type T) = b := fun {T b} e => by
    rw [List.contains_cons, tl, e]
    rfl
  have h1 := has X.hasB
  have h2 := has X.noAttr
  have h3 := has X.noName
  refine codeAny_builtinAt X.entry ?_
  unfold Builtin.«BaseException.__new__»
  refine wpAt_bind ?_
  show wpAt _ _ _ (stack >>= _) _ _ _
  refine wpAt_bind (wpAt_stack fun p below => wpAt_of_wpAny ?_)
  wp_walk
  refine wpAt_of_wpAny ?_
  rw [X.owner]
  repeat (first | with_reducible refine wpAny_madeHere_exc X.canon oC ?_ | with_reducible refine wpAny_loadPart_at oC ?_ | (with_reducible refine wpAny_isSubtype_exc oC ?_; first | rw [h1] | rw [h2] | rw [h3]) | wp_step)
  show R _ _
  rw [Heap.size_push]
  exact fin
theorem kwTypeCall (X : ExcBaseFacts B newId initId bmB) (tl : ∀ T : String, bm.contains (.type T) = bmB.contains (.type T)) {us : List Value} {kw : List (Str × Value)} {fI : Addr} {Q : Fin → Shared → Prop}
    (oC : h.get? C = some (excClassObj nm q C N bs bm hdct sn sub ab col dd k0 k1 k2 k3 k5 newId)) (ini : Looks (model prog w) h (typeLookup (.ref C) "__init__") (some (.ref fI)))
    (bnd : ∀ self, Looks (model prog w) h (bindSpecial (.ref fI) self) (.ref fI, [self])) (small : us.length ≤ sizeLine)
    (fin : codeAny (model prog w) A (.call (.ref fI) ⟨.ref (h.objs.size + 1) :: us, kw⟩) (fun r s' => match r with | .ok (.ret v) => v = .none ∧ Q (.done (.ret (.ref (h.objs.size + 1)))) s' | .ok _ => False | .error e => E e s') ⟨laidX h C us, g, d, t, os⟩) :
    wpAny (model prog w) A (Builtin.«type.__call__» ⟨.ref C :: us, kw⟩) Q E ⟨h, g, d, t, os⟩ := by
  repeat (first | with_reducible refine wpAny_loadPart_at oC ?_ | with_reducible refine wpAny_madeBy_exc oC ?_ | wp_step)
  refine codeAny_call_builtin_code (Code.quiet_builtin _ X.quiet) (kwNewOk X tl oC ?_)
  refine kwNewDone X tl oC ?_ small
  show wpAny _ _ _ _ _ _
  have oC' := laidX_keep (C := C) (us := us) _ _ oC
  have new : (laidX h C us).get? (h.objs.size + 1) = some (excO C h.objs.size) := by
    unfold laidX
    heap_get
  have self : (Value.ref C :: bm).contains (.ref C) = true := by simp
  unfold isInstance
  repeat (first | with_reducible refine wpAny_loadPart_at new ?_ | (with_reducible refine wpAny_isSubtype_exc oC' ?_; rw [self]) | wp_step)
  show wpAny _ _ (typeLookup (.ref C) _) _ _ _
  refine (ini.keeps laidX_keep).at ?_
  refine wpAny_holding (wpAny_bind (((bnd (.ref (h.objs.size + 1))).keeps laidX_keep).at ?_))
  refine wpAny_bind (wpAny_call (codeAny_mono fin fun r s' z => ?_))
  cases r with
  | error e => exact z
  | ok fl =>
    cases fl with
    | ret v =>
      obtain ⟨e, z⟩ := z
      subst e
      first
        | exact wpAny_pure (wpAny_pure z)
        | (wp_walk; exact z)
    | next => exact z.elim
    | brk => exact z.elim
    | cont => exact z.elim
theorem kwCall (X : ExcBaseFacts B newId initId bmB) (tl : ∀ T : String, bm.contains (.type T) = bmB.contains (.type T)) {us : List Value} {kw : List (Str × Value)} {fI : Addr}
    (oC : h.get? C = some (excClassObj nm q C N bs bm hdct sn sub ab col dd k0 k1 k2 k3 k5 newId)) (ini : Looks (model prog w) h (typeLookup (.ref C) "__init__") (some (.ref fI)))
    (bnd : ∀ self, Looks (model prog w) h (bindSpecial (.ref fI) self) (.ref fI, [self])) (small : us.length ≤ sizeLine)
    (fin : codeAny (model prog w) (A.under (.builtin "type.__call__" ⟨.ref C :: us, kw⟩)) (.call (.ref fI) ⟨.ref (h.objs.size + 1) :: us, kw⟩) (InitBack (h.objs.size + 1) R) ⟨laidX h C us, g, d, t, os⟩) :
    codeAny (model prog w) A (.call (.ref C) ⟨us, kw⟩) R ⟨h, g, d, t, os⟩ := by
  have a1 := tc_lookup
  have a2 := tc_bind (.ref C)
  have isT : (⟨h, g, d, t, os⟩ : Shared).TypeIs (.ref C) "type" := ⟨_, oC, rfl⟩
  refine codeAny_of_tree ?_
  show wpAny _ _ (callAny (.ref C) _) _ _ _
  repeat (any_goals (first | assumption | with_reducible refine wpAny_loadPart_at oC ?_ | wp_step))
  refine ⟨rfl, ?_⟩
  refine codeAny_call_builtin_at (Code.quiet_builtin _ (by decide +kernel)) entry_typeCall (wpAny_check_type_call_sub oC (kwTypeCall X tl oC ini bnd small ?_))
  refine codeAny_mono fin fun r s' z => ?_
  cases r with
  | error e => exact z
  | ok fl => cases fl <;> exact z
end
section
variable {prog : Program} {w : World} {A : Around} {E : Value → Shared → Prop} {R : Result → Shared → Prop} {s : Shared} {K : Frag} {mg : Str → Option Value} {cn : Str} {C fI : Addr}
/-- how an own error is called -/
def ErrArgs (us : List Value) (kw : List (Str × Value)) (v : Value) : Prop := (us = [v] ∧ kw = []) ∨ (us = [] ∧ kw = [(("value" : Str), v)]) ∨ (us = [] ∧ kw = [] ∧ v = .none)
theorem val_makes (T : ValTxt prog K mg cn C fI) {v : Value} {us : List Value} {kw : List (Str × Value)} {mg' mb : Str → Option Value} (X : K.In s.heap) (hG : s.heap.Ns mainGlobals mg') (hB : s.heap.Ns builtinsNs mb) (hBs : mb "super" = some (.type "super")) (lim : s.heap.NoLimit) (room : A.depth + 1 < recursionLimit) (ea : ErrArgs us kw v)
    (fin : ∀ h' tk e d, OwnMade s.heap h' e C d v → R (.ok (.ret (.ref e))) { s with heap := h', toks := tk }) : codeAny (model prog w) A (.call (.ref C) ⟨us, kw⟩) R s := by
  obtain ⟨nm, q, N, bs, bm, sn, sub, ab, col, dd, k0, k1, k2, k3, k5, oC, ok, _⟩ := T.cls
  obtain ⟨hp, g, dr, tk, os⟩ := s
  have kp : ∀ b o, hp.get? b = some o → (laidX hp C us).get? b = some o := laidX_keep
  have new : (laidX hp C us).get? (hp.objs.size + 1) = some (excO C hp.objs.size) := by
    unfold laidX
    heap_get
  have off : K.lookup (hp.objs.size + 1) = none := by
    cases e : K.lookup (hp.objs.size + 1) with
    | none => rfl
    | some o =>
      exact absurd (Heap.lt_size (show hp.get? (hp.objs.size + 1) = some o from X _ _ e)) (Nat.not_lt.mpr (Nat.le_succ _))
  have small : us.length ≤ sizeLine := by
    rw [sizeLine_eq]
    rcases ea with ⟨rfl, _⟩ | ⟨rfl, _⟩ | ⟨rfl, _⟩ <;> simp
  refine kwCall F.excBase_ValueError (fun T' => refsVE_contains T' bm ok) (X _ _ oC) (looks_findIn X T.iC) (fun self => bind_fn X self T.tC) small ?_
  refine val_init (s := ⟨laidX hp C us, g, dr, tk, os⟩) (v := v) T (X.keeps kp) (hG.keeps kp) (hB.keeps kp) hBs (lim.keeps kp) new off ?_ (fun h' tk' dx t1 en => ?_) ?_
  · show A.depth + 1 < recursionLimit
    exact room
  · obtain ⟨en1, en2, en3, en4, en5⟩ := en
    have big : hp.objs.size + 1 + 1 ≤ dx := by
      have z : (laidX hp C us).objs.size ≤ dx := en3
      unfold laidX at z
      rw [Heap.size_push, Heap.size_push] at z
      exact z
    refine ⟨rfl, fin h' tk' (hp.objs.size + 1) dx ⟨fun b o e => en1 b o (fun z => ?_) (kp b o e), Nat.le_succ _, ⟨_, _, en2, rfl, rfl, rfl, rfl⟩, Nat.le_trans (Nat.le_trans (Nat.le_succ _) (Nat.le_succ _)) big, en4, en5⟩⟩
    rw [z] at e
    exact absurd (Heap.lt_size e) (Nat.not_lt.mpr (Nat.le_succ _))
  · rcases ea with ⟨rfl, rfl⟩ | ⟨rfl, rfl⟩ | ⟨rfl, rfl, rfl⟩
    · exact .inl rfl
    · exact .inr (.inl rfl)
    · exact .inr (.inr ⟨rfl, rfl⟩)
end
end Kex
end PySem
/-! Kr14: own errors as values. -/
namespace L2
open PySem PySem.Spec PyProof.Rows
/-- a new own error: its dict, then itself -/
def rMkE (C : Addr) : V → Hp → VK → Prop := fun v H Q => ∀ e d, H e = none → H d = none → d ≠ e → Q (.ref e) (upd (upd H d (.xd [(("value" : Str), v)])) e (Kr.ExH C (some d) e))
def tMkE (C : Addr) (ta : TA) : TE := fun σ H Q => ta σ H fun vs H1 => ∃ v, vs = [v] ∧ rMkE C v H1 Q
def tMkE0 (C : Addr) : TE := fun _ H Q => rMkE C .non H Q
def tEx0 (C : Addr) : TE := fun _ H Q => ∀ a, H a = none → Q (.ref a) (upd H a (Kr.ExH C none a))
section
variable {X : Cx} {cn : Str} {C fI : Addr} {p pos : Pos} {k : Nat}
theorem exH_ok {P : Program} {w : World} {H : Hp} {h : Heap} {a C : Addr} {od : Option Addr} {oe : Obj} {vs : Array Value} (e : h.get? a = some oe) (c : oe.cls = .ref C) (d : oe.dict = od) (f : oe.data = .fields vs) : ObjOk P w H h a (Kr.ExH C od a) :=
  ⟨⟨oe, vs, e, c, d, f⟩, ⟨oe, e⟩, fun h1 h2 ⟨o, us, a1, a2⟩ kp => ⟨o, us, kp o a1, a2⟩⟩
theorem run_mkE {pins : List (Addr × Obj)} {σ : St} {H : Hp} {s : Shared} {Q : VK} {v : V} {v' : Value} {us : List Value} {kw : List (Str × Value)} (T : PySem.Kex.ValTxt X.prog X.K X.mg cn C fI) (hr : Room k X.A) (I : Inv X pins σ H s) (rv : RelV v v') (ea : PySem.Kex.ErrArgs us kw v') (h : rMkE C v H Q) :
    wpAny (model X.prog X.w) X.A (call (.ref C) us kw) (EP X pins σ Q) X.xe s := by
  obtain ⟨mb, hb1, hb2⟩ := I.mod.blt
  have lim := I.nolimit
  have hG := I.mod.glob.keeps I.bk
  have hB := hb1.keeps I.bk
  obtain ⟨hp, g, dr, tk, os⟩ := s
  refine wpAny_call (PySem.Kex.val_makes T I.kIn hG hB ((hb2 _ (by decide)).trans (by rfl)) lim (by have := hr.dp; omega) ea fun h' tk' e d M => ?_)
  show EP X pins σ Q (.ref e) ⟨h', g, dr, tk', os⟩
  obtain ⟨oe, fv, hoe, hc, hd, hdat, _⟩ := M.obj
  have hns := M.ns
  obtain ⟨G', g1, g2⟩ := restrict h' fun b => decide (b ≠ e)
  have gk : ∀ b, b ≠ e → G'.get? b = h'.get? b := fun b hb => g1 b (decide_eq_true hb)
  have ge : G'.get? e = none := g2 e (by simp)
  have old : ∀ b o, hp.get? b = some o → G'.get? b = some o := fun b o q => (gk b (Nat.ne_of_lt (Nat.lt_of_lt_of_le (Heap.lt_size q) M.new))).trans (M.keep b o q)
  have od : ObjOk X.prog X.w (upd H d (.xd [(("value" : Str), v)])) G' d (.xd [(("value" : Str), v)]) := ⟨_, hns.at (fun o q => (gk d M.dne).trans q), fun f => relO_val rv f⟩
  have J : Inv X pins σ (upd H d (.xd [(("value" : Str), v)])) ⟨G', g, dr, tk', os⟩ := I.laid (t' := tk') old M.dbig od
  have hn : upd H d (.xd [(("value" : Str), v)]) e = none := by
    rw [upd_ne (Ne.symm M.dne)]
    exact I.hok.fresh M.new
  have J2 := J.laidN (h' := h') (t' := tk') (fun b o q => by
    by_cases hb : b = e
    · have q' : G'.get? b = some o := q
      rw [hb, ge] at q'; cases q'
    · exact (gk b hb).symm.trans q) ge hn (exH_ok (C := C) hoe hc hd hdat)
  exact ⟨.ref e, _, J2, rfl, h e d (I.hok.fresh M.new) (I.hok.fresh M.dbig) M.dne⟩
/-- Cn(x) -/
theorem pe_mkE {a : Expr} {ta : TA} (T : PySem.Kex.ValTxt X.prog X.K X.mg cn C fI) (hr : Room k X.A) (ha : PA X [a] ta) (hg : Gl X cn) (hd : (cn == ("__debug__" : Str)) = false := by decide)
    (he : starEach (a :: []) X.env = (false, eval a X.env) :: starEach [] X.env := by rfl) (hpl : (backTo pos (starEach [] X.env)).any (·.1) = false := by rfl) : PE X (.Call (.Name cn p) [a] [] pos) (tMkE C ta) := by
  refine ⟨fun pins s σ H Q I h => ?_⟩
  refine wpAny_Call_Name_kw (ld_glob I hg T.gC ?_ hd)
  refine PySem.W.callWith_K (h₀ := X.base) I.ok.mod.kin T.kC (thn (ha.run pos pins s σ H _ I h) fun us s1 hh => ?_) he hpl
  obtain ⟨vs, H1, I1, r1, v, rfl, q1⟩ := hh
  refine ⟨I1.kIn, ?_⟩
  cases r1 with
  | cons rv rn =>
    cases rn
    exact run_mkE T hr I1 rv (.inl ⟨rfl, rfl⟩) q1
/-- Cn(value=x) -/
theorem pe_mkEk {kws : List Keyword} {tk : TA} (T : PySem.Kex.ValTxt X.prog X.K X.mg cn C fI) (hr : Room k X.A) (hkw : PK X kws tk) (hg : Gl X cn) (hd : (cn == ("__debug__" : Str)) = false := by decide)
    (hall : (backToKw pos (keywordEach kws X.env)).all (·.1.isSome) = true := by rfl) (hks : (backToKw pos (keywordEach kws X.env)).filterMap (·.1) = [("value" : Str)] := by rfl)
    (hpl : ((backTo pos (starEach [] X.env)).any (·.1) || (backToKw pos (keywordEach kws X.env)).any (·.1.isNone)) = false := by rfl) : PE X (.Call (.Name cn p) [] kws pos) (tMkE C tk) := by
  refine ⟨fun pins s σ H Q I h => ?_⟩
  refine wpAny_Call_Name_kw (ld_glob I hg T.gC ?_ hd)
  refine PySem.W.callWith_KW0 (h₀ := X.base) I.ok.mod.kin T.kC hall ?_ hpl
  refine thn (hkw.run pos pins s σ H _ I h) fun ws s1 hh => ?_
  obtain ⟨vs, H1, I1, r1, v, rfl, q1⟩ := hh
  refine ⟨I1.kIn, ?_⟩
  rw [hks]
  cases r1 with
  | cons rv rn =>
    cases rn
    exact run_mkE T hr I1 rv (.inr (.inl ⟨rfl, rfl⟩)) q1
/-- Cn() -/
theorem pe_mkE0 (T : PySem.Kex.ValTxt X.prog X.K X.mg cn C fI) (hr : Room k X.A) (hg : Gl X cn) (hd : (cn == ("__debug__" : Str)) = false := by decide) : PE X (.Call (.Name cn p) [] [] pos) (tMkE0 C) := by
  refine ⟨fun pins s σ H Q I h => ?_⟩
  refine wpAny_Call_Name_kw (ld_glob I hg T.gC ?_ hd)
  exact PySem.W.callWith_K0 I.kIn T.kC (run_mkE (v := .non) T hr I rfl (.inr (.inr ⟨rfl, rfl, rfl⟩)) h)
/-- Cn(), no __init__ of its own -/
theorem pe_ex0 {bmB : List Value} {B newId initId : String} {x : Str} (F : ExcBaseFacts B newId initId bmB) (q : PySem.W.excIn X.K C bmB newId = true) (gC : X.mg x = some (.ref C)) (kC : PySem.W.keepIn X.K (.ref C) = true) (hg : Gl X x) (hd : (x == ("__debug__" : Str)) = false := by decide) :
    PE X (.Call (.Name x p) [] [] pos) (tEx0 C) := by
  refine ⟨fun pins s σ H Q I h => ?_⟩
  refine wpAny_Call_Name_kw (ld_glob I hg gC ?_ hd)
  refine PySem.W.callWith_K0 I.kIn kC ?_
  show wpAny _ _ (call (.ref C) []) _ _ _
  obtain ⟨bm, N, nm, qn, bs, hdct, sn, sub, ab, col, dd, k0, k1, k2, k3, k5, mN, oC, oN, hni, T⟩ := exc_obj I.kIn q
  refine wpAny_call_exc_subT F T oC oN hni (fun h' a hm => ?_) (Nat.zero_le _)
  have hn : H a = none := I.hok.gone hm.new
  obtain ⟨t, ht, _, _⟩ := hm.there
  exact ⟨.ref a, upd H a (Kr.ExH C none a), I.laidN hm.keeps hm.new hn (exH_ok ht rfl rfl rfl), rfl, h a hn⟩
/-- isinstance(e, c), e an own error -/
def rIsErr (K : PySem.W.Frag) : List V → Hp → VK → Prop := fun xs H Q => ∃ (a D : Addr) (od : Option Addr) (c : V) (cv : Value) (b : Bool), xs = [.ref a, c] ∧ H a = some (Kr.ExH D od a) ∧ (∀ dd, od = some dd → ∃ fs, H dd = some (.xd fs)) ∧ (∀ u, RelV c u → u = cv) ∧ ExcC K D ∧ PySem.W.kitOne K (.ref D) cv = some b ∧ Q (.bl b) H
theorem call_isErr : CallR X (.builtin "isinstance") (rIsErr X.K) := by
  intro pins s σ H xs us Q I r h
  obtain ⟨a, D, od, c, cv, b, rfl, ha, hdd, hcv, ok, e, q⟩ := h
  obtain ⟨u1, u2, rfl, r1, r2⟩ : ∃ u1 u2, us = [u1, u2] ∧ RelV (.ref a) u1 ∧ RelV c u2 := by
    cases r with
    | cons rx rr =>
      cases rr with
      | cons rt rr =>
        cases rr
        exact ⟨_, _, rfl, rx, rt⟩
  obtain rfl : u1 = Value.ref a := r1
  have ec := hcv _ r2
  subst ec
  obtain ⟨⟨oe, vs, ho, h1, h2, h3⟩, _, _⟩ := I.hok a _ ha
  have J : ∃ oD, PySem.W.InstAt s.heap a oe D oD := by
    cases od with
    | none => exact ⟨none, ho, h1, by unfold PySem.W.notCls; rw [h3] <;> rfl, by rw [h2]; trivial⟩
    | some dd =>
      obtain ⟨fs, hx⟩ := hdd dd rfl
      obtain ⟨mA, hns, _⟩ := I.hok dd _ hx
      obtain ⟨oD, hoD, _⟩ := lookIn_ns hns
      exact ⟨some oD, ho, h1, by unfold PySem.W.notCls; rw [h3] <;> rfl, by rw [h2]; exact hoD⟩
  obtain ⟨oD, J⟩ := J
  obtain ⟨cd, hcl, _⟩ := PySem.W.any_some ok.hd
  have iss : (PySem.W.clsIn X.K D).isSome = true := by rw [hcl] <;> rfl
  exact PySem.W.kia_one (PySem.W.kitx_exc (od := oD) iss ok.hg ok.hk ok.hs ok.ha ok.hn ok.ht ok.hm) I.kIn J e (fun z => nomatch z) fun tk => ⟨.bl b, H, I.kept (t' := tk) fun _ _ z => z, rfl, q⟩
/-- e.value, e an own error -/
def tErrV (K : PySem.W.Frag) (te : TE) : TE := fun σ H Q => te σ H fun x H1 => ∃ (a D dd : Addr) (v : V), x = .ref a ∧ H1 a = some (Kr.ExH D (some dd) a) ∧ H1 dd = some (.xd [(("value" : Str), v)]) ∧ XfC K D ∧ PySem.W.findIn K (.ref D) "value" = some none ∧ Q v H1
theorem pe_errV {e : Expr} {te : TE} (he : PE X e te) (hb : attributeBase e "value" X.env (eval e X.env) = eval e X.env := by rfl) : PE X (.Attribute e "value" pos) (tErrV X.K te) := by
  refine ⟨fun pins s σ H Q I h => ?_⟩
  refine attr_of hb (thn (he.run pins s σ H _ I h) fun u s1 hh => ?_)
  obtain ⟨x, H1, I1, rx, a, D, dd, v, ex, ha, hx, T, no, q⟩ := hh
  subst ex
  obtain rfl : u = Value.ref a := rx
  obtain ⟨⟨oe, vs, ho, h1, h2, h3⟩, _, _⟩ := I1.hok a _ ha
  obtain ⟨mA, hns, hr⟩ := I1.hok dd _ hx
  obtain ⟨od, hod, hl⟩ := lookIn_ns hns
  have l : List.lookup ("value" : Str) [(("value" : Str), v)] = some v := by simp [List.lookup]
  obtain ⟨u, hu, ru⟩ := RelO.some_of (v := v) (o := mA "value") (by rw [← l]; exact hr "value")
  have J : PySem.W.InstAt s1.heap a oe D (some od) := ⟨ho, h1, by unfold PySem.W.notCls; rw [h3] <;> rfl, by rw [h2]; exact hod⟩
  exact HandSPX.exc_get I1.kIn J T.ga T.gg T.exC (PySem.W.findObj_own T.hdC no rfl (by rw [hl, hu])) (handed_of ru) ⟨v, H1, I1.tok _, ru, q⟩
end
end L2
namespace Kr
open PySem L2
section
variable {E : XK} {ex : Addr → D → Prop} {f : Bool} {G : List Sl} {te ta tb : TE} {Q : D → List Sl → Prop} {QA : List D → List Sl → Prop} {tr : TA} {C : Addr} {K : PySem.W.Frag}
theorem rp_newErr {β : Bs} {T A : List Addr} {σ : L2.St} {H : Hp} {e dd : Addr} {v : V} {d : D} (en : Env β T A σ H G) (h1 : H e = none) (h2 : H dd = none) (hne : dd ≠ e) (r : Rp (Vw true β T A H) v d) :
    Same H (upd (upd H dd (.xd [(("value" : Str), v)])) e (ExH C (some dd) e)) ∧ Rp (Vw f β T A (upd (upd H dd (.xd [(("value" : Str), v)])) e (ExH C (some dd) e))) (.ref e) (.err C d) := by
  have h3 : upd H dd (.xd [(("value" : Str), v)]) e = none := by rw [upd_ne (Ne.symm hne)]; exact h1
  have g : Same H (upd (upd H dd (.xd [(("value" : Str), v)])) e (ExH C (some dd) e)) := (same_new h2).trans (same_new h3)
  have off : ∀ p, H p = none → p ∉ T ++ A := fun p hp z => en.live p z hp
  have off0 : ∀ p, H p = none → p ∉ β.A0 := fun p hp z => en.live p (en.a0A p z) hp
  have at2 : upd (upd H dd (.xd [(("value" : Str), v)])) e (ExH C (some dd) e) dd = some (.xd [(("value" : Str), v)]) := by rw [upd_ne hne]; exact upd_same
  have rr : Rp (Vw f β T A H) v d := r.mono en.upf
  have r2 := rr.mono (en.vwf (f := f) (off_same g))
  refine ⟨g, ?_⟩
  cases f with
  | true => exact .err (off_of (off e h1) upd_same) (off_of (off dd h2) at2) r2
  | false => exact .err (off_of (off0 e h1) upd_same) (off_of (off0 dd h2) at2) r2
theorem dE_mkE (h : dA E ex true tr G fun ds G1 => ∃ d, ds = [d] ∧ Q (.err C d) G1) : dE E ex f (tMkE C tr) G Q := fun β T A σ H Qv en w k => by
  refine h β T A σ H _ en w fun ds vs H1 G1 ⟨d, ed, q⟩ en1 s1 r1 => ?_
  subst ed
  cases r1 with
  | cons rv rn =>
    cases rn
    refine ⟨_, rfl, fun e dd h1 h2 hne => ?_⟩
    obtain ⟨g, r⟩ := rp_newErr (C := C) (f := f) en1 h1 h2 hne rv
    exact k (.err C d) _ _ G1 q (en1.grow g) (s1.trans (off_same g)) r
theorem dE_mkE0 (q : Q (.err C .non) G) : dE E ex f (tMkE0 C) G Q := fun β T A σ H Qv en w k => fun e dd h1 h2 hne => by
  obtain ⟨g, r⟩ := rp_newErr (C := C) (f := f) en h1 h2 hne (Rp.non)
  exact k (.err C .non) _ _ G q (en.grow g) (off_same g) r
theorem dE_ex0 (q : Q (.er0 C) G) : dE E ex f (tEx0 C) G Q := fun β T A σ H Qv en w k => fun e h1 => by
  have g : Same H (upd H e (ExH C none e)) := same_new h1
  exact k (.er0 C) _ _ G q (en.grow g) (off_same g) (.er0 (en.newf h1))
def D.errC : D → Option Addr
  | .err C _ => some C
  | .er0 C => some C
  | _ => none
theorem rp_errC {F : Hp} {v : V} {d : D} (r : Rp F v d) (h : d.errC = some C) : ∃ a od, v = .ref a ∧ F a = some (ExH C od a) ∧ ∀ dd, od = some dd → ∃ fs, F dd = some (.xd fs) := by
  cases r with
  | @err a C' dd u e h1 h2 _ =>
    cases h
    exact ⟨a, some dd, rfl, h1, fun z hz => by cases hz; exact ⟨_, h2⟩⟩
  | @er0 a C' h1 =>
    cases h
    exact ⟨a, none, rfl, h1, fun z hz => by cases hz⟩
  | _ => cases h
/-- isinstance(e, c), e an own error, c a class of the module or a built-in one -/
theorem dE_isErr {c : V} {cv : Value} (hc : ∀ u, RelV c u → u = cv) (h : dE E ex false te G fun d G1 => ∃ C b, d.errC = some C ∧ ExcC K C ∧ PySem.W.kitOne K (.ref C) cv = some b ∧ Q (.bl b) G1) : dE E ex f (tCB (rIsErr K) (tCons te (tCons (tC c) tNil))) G Q := fun β T A σ H Qv en w k => by
  refine h β T A σ H _ en w fun d u H1 G1 ⟨C, b, e1, e2, e3, q⟩ en1 s1 r1 => ?_
  obtain ⟨a, od, rfl, ha, hd⟩ := rp_errC r1 e1
  exact ⟨a, C, od, c, cv, b, rfl, (vw_in (f := false)) _ _ ha, fun dd z => by
    obtain ⟨fs, y⟩ := hd dd z
    exact ⟨fs, (vw_in (f := false)) _ _ y⟩, hc, e2, e3, k _ _ H1 G1 q en1 s1 (.bl b)⟩
theorem dE_errV (h : dE E ex f te G fun d G1 => ∃ C d', d = .err C d' ∧ XfC K C ∧ PySem.W.findIn K (.ref C) "value" = some none ∧ Q d' G1) : dE E ex f (tErrV K te) G Q := fun β T A σ H Qv en w k => by
  refine h β T A σ H _ en w fun d u H1 G1 ⟨C, d', e1, e2, e3, q⟩ en1 s1 r1 => ?_
  subst e1
  cases r1 with
  | @err a _ dd v _ h1 h2 r => exact ⟨a, C, dd, v, rfl, (vw_in (f := f)) _ _ h1, (vw_in (f := f)) _ _ h2, e2, e3, k _ _ H1 G1 q en1 s1 r⟩
end
end Kr
/-! Kr15: repr of data; defs whose promise leans on it that no repr is under way. -/
namespace Kr
open PySem L2
/-! ### data as repr tells it -/
def keyP : Key → PyData
  | .inl i => .int i
  | .inr x => .str x
mutual
def D.toR : D → PyData
  | .non => .none
  | .bl b => .bool b
  | .int i => .int i
  | .str x => .str x
  | .lst l => .list (D.toRs l)
  | .tup l => .tuple (D.toRs l)
  | .dic ks l => .dict ((ks.map keyP).zip (D.toRs l))
  | .ins _ _ _ => .none
  | .is _ d => D.toR d
  | .fz _ _ => .none
  | .err _ _ => .none
  | .er0 _ => .none
def D.toRs : List D → List PyData
  | [] => []
  | d :: l => D.toR d :: D.toRs l
end
mutual
/-- what repr is asked of here -/
def D.tells : D → Bool
  | .non => true
  | .bl _ => true
  | .int _ => true
  | .str _ => true
  | .lst l => D.tellss l
  | .tup l => D.tellss l
  | .dic _ l => D.tellss l
  | .ins _ _ _ => false
  | .is _ d => D.tells d
  | .fz _ _ => false
  | .err _ _ => false
  | .er0 _ => false
def D.tellss : List D → Bool
  | [] => true
  | d :: l => D.tells d && D.tellss l
end
/-- may be asked of repr: short enough -/
def D.rok (d : D) : Bool := d.tells && (d.toR.showable && (d.toR.leavesShort 13 && (decide (d.toR.weight ≤ 2 ^ 20) && decide (d.toR.depth ≤ 60))))
abbrev D.text (d : D) : Str := d.toR.shown
theorem toRs_len : ∀ l : List D, (D.toRs l).length = l.length
  | [] => rfl
  | d :: l => by
    show (D.toR d :: D.toRs l).length = _
    rw [List.length_cons, List.length_cons, toRs_len l]
theorem zip_fst {α β : Type} : ∀ {l : List α} {m : List β}, l.length = m.length → (l.zip m).map (·.1) = l
  | [], [], _ => rfl
  | x :: l, y :: m, h => by
    rw [List.zip_cons_cons, List.map_cons, zip_fst (Nat.succ.inj h)]
theorem zip_snd {α β : Type} : ∀ {l : List α} {m : List β}, l.length = m.length → (l.zip m).map (·.2) = m
  | [], [], _ => rfl
  | x :: l, y :: m, h => by
    rw [List.zip_cons_cons, List.map_cons, zip_snd (Nat.succ.inj h)]
theorem readsAll_keys {P : Program} {w : World} {h : Heap} : ∀ {es : List DictEntry} {kvs : List (Key × Value)}, Pairs (mixKind P w) es kvs → ReadsAll h (es.map (·.key)) ((kvs.map (·.1)).map keyP) []
  | _, _, .nil => .nil
  | _, _, @Pairs.cons _ _ _ _ _ e kv es kvs h1 h2 r => by
    have r1 := readsAll_keys (h := h) r
    have r2 : Reads h e.key (keyP kv.1) [] := by
      rcases keyIs_shape (k := kv.1) (v := e.key) h1 with ⟨i, t, e1, e2⟩ | ⟨x, t, e1, e2⟩
      · rw [e1, e2]
        exact .int i t
      · rw [e1, e2]
        exact .str x t
    exact .cons r2 r1
theorem pairs_vals {P : Program} {w : World} : ∀ {es : List DictEntry} {kvs : List (Key × Value)}, Pairs (mixKind P w) es kvs → es.map (·.val) = kvs.map (·.2)
  | _, _, .nil => rfl
  | _, _, .cons h1 h2 r => by rw [List.map_cons, List.map_cons, h2, pairs_vals r]
theorem kv_split : ∀ {ks : List Key} {vs : List V} {us : List (Key × Value)}, ks.length = vs.length → KV (ks.zip vs) us → us.map (·.1) = ks ∧ Vals vs (us.map (·.2))
  | [], [], _, _, .nil => ⟨rfl, .nil⟩
  | k :: ks, v :: vs, _, h, .cons r rs => by
    obtain ⟨e1, e2⟩ := kv_split (Nat.succ.inj h) rs
    exact ⟨by rw [List.map_cons, e1]; exact congrArg (· :: ks) r.1.symm, .cons r.2 e2⟩
section
variable {P : Program} {w : World} {F H : Hp} {h : Heap}
/-- the addresses that are read are tracked -/
abbrev Trk (H : Hp) (as : List Addr) : Prop := ∀ a ∈ as, H a ≠ none
mutual
theorem reads_of (ok : HOk P w H h) (g : Same F H) : ∀ {v : V} {d : D} {u : Value}, Rp F v d → d.tells = true → RelV v u → ∃ as, Reads h u d.toR as ∧ Trk H as
  | _, _, _, .non, _, r => by
    obtain rfl := r
    exact ⟨[], .none, fun a z => by cases z⟩
  | _, _, _, .bl b, _, r => by
    obtain rfl := r
    exact ⟨[], .bool b, fun a z => by cases z⟩
  | _, _, _, .int i, _, r => by
    obtain ⟨t, rfl⟩ := r
    exact ⟨[], .int i t, fun a z => by cases z⟩
  | _, _, _, .str x, _, r => by
    obtain ⟨t, rfl⟩ := r
    exact ⟨[], .str x t, fun a z => by cases z⟩
  | _, _, _, @Rp.lst _ a xs ds ha ra, p, r => by
    obtain rfl := r
    obtain ⟨_, its, n, vi, ho⟩ := ok a _ (g _ _ ha)
    obtain ⟨as, R, t⟩ := readss_of ok g ra p vi
    refine ⟨a :: as, .list ho rfl rfl R, fun b z => ?_⟩
    rcases List.mem_cons.mp z with rfl | z
    · rw [g _ _ ha]; simp
    · exact t b z
  | _, _, _, @Rp.tup _ a xs ds ha ra, p, r => by
    obtain rfl := r
    obtain ⟨_, its, vi, o, ho, hc, n, hd⟩ := ok a _ (g _ _ ha)
    obtain ⟨as, R, t⟩ := readss_of ok g ra p vi
    exact ⟨as, .tuple ho hc hd R, t⟩
  | _, _, _, @Rp.dic _ a kvs ks vs ds ha ek lk ra, p, r => by
    obtain rfl := r
    subst ek
    obtain ⟨_, _, us, kv, o, es, ep, ho, hx, hd, _, pr, _⟩ := ok a _ (g _ _ ha)
    obtain ⟨e1, vi⟩ := kv_split lk kv
    obtain ⟨as, R, t⟩ := readss_of ok g ra p vi
    have hl : (ks.map keyP).length = (D.toRs ds).length := by rw [List.length_map, toRs_len, lk, ra.length]
    refine ⟨a :: [] ++ as, .dict (kvs := (ks.map keyP).zip (D.toRs ds)) ho hx.1 hd ?_ ?_, fun b z => ?_⟩
    · rw [zip_fst hl, ← e1]
      exact readsAll_keys pr
    · rw [zip_snd hl, pairs_vals pr]
      exact R
    · rcases List.mem_cons.mp (show b ∈ a :: as from z) with rfl | z
      · rw [g _ _ ha]; simp
      · exact t b z
  | _, _, _, .ins _ _ _ _, p, _ => Bool.noConfusion p
  | _, _, _, @Rp.is _ a d q, p, r => by
    have z := reads_of (d := d) ok g q p r
    exact z
  | _, _, _, .fz _, p, _ => Bool.noConfusion p
  | _, _, _, .err _ _ _, p, _ => Bool.noConfusion p
  | _, _, _, .er0 _, p, _ => Bool.noConfusion p
theorem readss_of (ok : HOk P w H h) (g : Same F H) : ∀ {vs : List V} {ds : List D} {us : List Value}, RpA F vs ds → D.tellss ds = true → Vals vs us → ∃ as, ReadsAll h us (D.toRs ds) as ∧ Trk H as
  | _, _, _, .nil, _, .nil => ⟨[], .nil, fun a z => by cases z⟩
  | _, _, _, @RpA.cons _ v vs d ds q qs, p, .cons r rs => by
    have p' : (D.tells d && D.tellss ds) = true := p
    rw [Bool.and_eq_true] at p'
    obtain ⟨as, R, t⟩ := reads_of ok g q p'.1 r
    obtain ⟨bs, Rs, ts⟩ := readss_of ok g qs p'.2 rs
    refine ⟨as ++ bs, .cons R Rs, fun b z => ?_⟩
    rcases List.mem_append.mp z with z | z
    · exact t b z
    · exact ts b z
end
end
def rRepr : List V → Hp → VK → Prop := fun vs H Q => ∃ (F : Hp) (v : V) (d : D), vs = [v] ∧ Same F H ∧ Rp F v d ∧ d.rok = true ∧ Q (.str d.text) H
theorem call_repr {X : Cx} (free : X.A.guards = some []) (room : X.A.units + 65 < cLine) (sys : (X.K.lookup sysModules).isSome = true) : CallR X (.builtin "repr") rRepr := by
  intro pins s σ H xs us Q I r h
  obtain ⟨F, v, d, rfl, g, q, hk, fin⟩ := h
  obtain ⟨u, rfl, ru⟩ := vals1 r
  unfold D.rok at hk
  simp only [Bool.and_eq_true, decide_eq_true_eq] at hk
  obtain ⟨k1, k2, k3, k4, k5⟩ := hk
  obtain ⟨as, R, t⟩ := reads_of I.hok g q k1 ru
  have fits : d.toR.shown.length ≤ sizeLine := PyData.shown_fits (B := 13) (by decide) (by decide) k3 k4
  have off : sysModules ∉ as := fun z => by
    obtain ⟨o, ho⟩ := Option.isSome_iff_exists.mp sys
    exact t _ z (I.bs _ o (I.mod.kin _ _ ho)).2
  have done : ∀ h' u' tk, (∀ b o, s.heap.get? b = some o → h'.get? b = some o) → EP X pins σ Q (.str d.text u') { s with heap := h', toks := tk } := fun h' u' tk kp => ⟨.str d.text, H, I.kept (t' := tk) kp, ⟨_, rfl⟩, fin⟩
  have same : ∀ tk, EP X pins σ Q (.str d.text s.toks) { s with toks := tk } := fun tk => done s.heap s.toks tk fun _ _ z => z
  generalize hd : d.toR = pd at R k2 k3 k4 k5 fits
  have et : d.text = pd.shown := by rw [← hd]
  rw [et] at done same
  cases R with
  | none =>
    rw [PyData.shown_none] at same
    exact PySem.P.repr_of_none (same _)
  | bool b =>
    rw [PyData.shown_bool] at same
    exact PySem.P.repr_of_bool (same _)
  | int i tk =>
    rw [PyData.shown_int] at same
    have k2' : decide (i.natAbs.log2 < 1920) = true := by
      have e : (PyData.int i).showable = decide (i.natAbs.log2 < 1920) := by simp only [PyData.showable]
      rw [← e]
      exact k2
    exact PySem.P.repr_of_int (of_decide_eq_true k2') (same _)
  | str x tk =>
    rw [PyData.shown_str] at same fits
    exact PySem.P.repr_of_str (same _) fits
  | list h1 h2 h3 h4 => exact repr_of_reads' (.list h1 h2 h3 h4) k2 (fun _ => off) free (by omega) (fun _ _ e => e) (fun h' u' tk kp => done h' u' tk kp) fits
  | tuple h1 h2 h3 h4 => exact repr_of_reads' (.tuple h1 h2 h3 h4) k2 (fun _ => off) free (by omega) (fun _ _ e => e) (fun h' u' tk kp => done h' u' tk kp) fits
  | dict h1 h2 h3 h4 h5 => exact repr_of_reads' (.dict h1 h2 h3 h4 h5) k2 (fun _ => off) free (by omega) (fun _ _ e => e) (fun h' u' tk kp => done h' u' tk kp) fits
section
variable {E : XK} {ex : Addr → D → Prop} {f : Bool} {G : List Sl} {te : TE} {Q : D → List Sl → Prop}
theorem dE_repr (h : dE E ex false te G fun d G1 => d.rok = true ∧ Q (.str d.text) G1) : dE E ex f (tCB rRepr (tCons te tNil)) G Q := fun β T A σ H Qv en w k => by
  refine h β T A σ H _ en w fun d u H1 G1 ⟨h1, q⟩ en1 s1 r1 => ?_
  exact ⟨_, u, d, rfl, vw_in, r1, h1, k _ _ H1 G1 q en1 s1 (.str _)⟩
end
end Kr
/-! Kr16: defs that want to know that no repr is under way; a law's end over such a def. -/
namespace L2
open PySem PySem.Spec PyProof.Rows
/-- a def's promise where no repr is under way -/
structure FnOkG (P : Program) (w : World) (K : PySem.W.Frag) (mg : Str → Option Value) (base : Heap) (k : Nat) (f : Addr) (fd : FuncData) (ps : List Str) (sp : Sp) : Prop where
  len : ∀ vs H Q E, sp vs H Q E → vs.length = ps.length
  go : ∀ (A : Around) (fr : List Env) (s : Shared) (H : Hp) (args : Args) (us : List Value) (vs : List V) (Q : VK) (E : XK), Room k A → A.guards = some [] → Env0 P w K mg base A fr s H → BindsTo s fd args (ps.zip us) → Vals vs us → sp vs H Q E → codeAny (model P w) A (.call (.ref f) args) (CR CX0 fr P w H s Q E) s
section
variable {P : Program} {w : World} {K : PySem.W.Frag} {mg : Str → Option Value} {base : Heap} {x : Str} {st : Stmt} {f : Addr} {fd : FuncData} {N ps : List Str} {k : Nat} {sp : Sp}
theorem fnOkG (F : Fun K x x st f fd) (S : FnScope N ps (defScope st)) (len : ∀ vs H Q E, sp vs H Q E → vs.length = ps.length)
    (text : ∀ (cdv : Value) (A : Around) (fr : List Env) (s : Shared) (H : Hp) (vs : List V) (Q : VK) (E : XK), Room k (A.deeper (envOfC x (defScope st) s.heap.objs.size f cdv)) → A.guards = some [] → sp vs H Q E →
      ∃ t, PSs (cxOf CX0 P w K mg base N x (defScope st) f cdv A fr s H E) (defBody st) t ∧ t { nx := fun _ H' => Q .non H', rt := Q } (start N vs) H) : FnOkG P w K mg base (k + 1) f fd ps sp := by
  obtain ⟨oc, od, kV, doc, pm, an, cdv, ct, osl, rfl, at_, code⟩ := F.ex
  constructor
  · exact len
  intro A fr s H args us vs Q E room free en bind rel want
  have inK : K.In s.heap := en.mod.kin.keeps fun b o z => (en.bs b o z).1
  have slots : ∀ y ∈ ps.zip us, (defScope st).names.lookup y.1 = some .local ∨ ((defScope st).names.lookup y.1 = some .cell ∧ ((cellsFrom (s.heap.objs.size + 1) (defScope st).names []).lookup y.1).isSome = true) := by
    rintro ⟨n, v⟩ m
    rcases S.par n (List.of_mem_zip m).1 with z | z
    · exact .inl z
    · exact .inr ⟨z, PySem.W.cellsFrom_some _ _ _ (.inl z)⟩
  refine codeAny_call_function room.depth (inK _ _ at_) rfl S.co S.gen rfl (PySem.W.codeRec_of inK code) (bind _ _ _ _ (wpAny_newFunctionEnv_cells S.kind slots ?_))
  intro env isenv s1 lay
  subst isenv
  refine ⟨(en.mod.nolimit.keeps fun b o z => (en.bs b o z).1).keeps lay.toInCall.keep, codeAny_func ?_⟩
  obtain ⟨t, ht, want'⟩ := text cdv A fr s H vs Q E (room.deeper _) free want
  have J := inv_start (CX := CX0) (E := E) S room.hd en (len _ _ _ _ want) rel lay
  refine wpAny_mono (ht.run [] s1 (start N vs) H _ J want') ?_ (fun _ _ z => z)
  intro fl s' z
  cases fl with
  | next =>
    obtain ⟨_, H', J', q⟩ := z
    exact ⟨.non, H', J'.os, J'.bare, J'.base, J'.hok, rfl, q⟩
  | ret u =>
    obtain ⟨v, _, H', J', rv, q⟩ := z
    exact ⟨v, H', J'.os, J'.bare, J'.base, J'.hok, rv, q⟩
  | brk => exact z.elim fun _ ⟨_, _, q⟩ => q.elim
  | cont => exact z.elim fun _ ⟨_, _, q⟩ => q.elim
end
section
variable {X : Cx} {x : Str} {ps : List Str} {k : Nat} {sp : Sp} {p pos : Pos} {e : Expr} {es : List Expr} {t : TA}
/-- a def of the top with such a promise -/
structure ConG (P : Program) (w : World) (K : PySem.W.Frag) (mg : Str → Option Value) (base : Heap) (x : Str) (ps : List Str) (k : Nat) (sp : Sp) : Prop where
  ex : ∃ (f : Addr) (fd : FuncData), mg x = some (.ref f) ∧ PySem.W.keepIn K (.ref f) = true ∧ Binds K fd ps [] ∧ FnOkG P w K mg base k f fd ps sp
theorem pe_conG (c : ConG X.prog X.w X.K X.mg X.base x ps k sp) (free : X.A.guards = some []) (hr : Room k X.A) (hg : Gl X x) (ha : PA X (e :: es) t) (hdb : (x == ("__debug__" : Str)) = false := by decide)
    (he : starEach (e :: es) X.env = (false, eval e X.env) :: starEach es X.env := by rfl) (hpl : (backTo pos (starEach es X.env)).any (·.1) = false := by rfl) : PE X (.Call (.Name x p) (e :: es) [] pos) (tCall sp [] E0 t) := by
  obtain ⟨f, fd, g, kp, b, F⟩ := c.ex
  constructor
  intro pins s σ H Q I h
  refine wpAny_Call_Name_kw (ld_glob I hg g ?_ hdb)
  refine PySem.W.callWith_K (h₀ := X.base) I.ok.mod.kin kp (thn (ha.run pos pins s σ H _ I h) ?_) he hpl
  rintro us s1 ⟨vs, H1, I1, r, q⟩
  rw [List.append_nil] at q
  have n : us.length = ps.length := r.length.symm.trans (F.len _ _ _ _ q)
  have bd := b s1 us I1.kIn (by rw [List.append_nil]; exact n)
  rw [List.append_nil] at bd
  refine ⟨I1.kIn, wpAny_call (codeAny_mono (F.go X.A X.stack s1 H1 ⟨us, []⟩ us vs Q E0 hr free I1.env0 bd r q) ?_)⟩
  intro res s2 z
  cases res with
  | error e => exact pass0 pins σ H1 s1 e s2 I1 z
  | ok fl =>
    cases fl with
    | ret u => exact I1.after z
    | next => cases z
    | brk => cases z
    | cont => cases z
end
/-! ### the law's end -/
section
variable {P : Program} {w : World} {K : PySem.W.Frag} {mg mb : Str → Option Value} {k : Nat} {fa a : Addr} {fd : FuncData} {x : Str} {sp : Sp} {s : Shared} {vs : List Value} {ns : List Int}
/-- the call, over an abstract heap that knows the script at most -/
theorem lawG_at (KX : K.In s.heap) (gl : s.heap.Ns mainGlobals mg) (bl : s.heap.Ns builtinsNs mb) (blt : ∀ y : Str, y ≠ "__name__" → mb y = bootBuiltins y) (lim : s.heap.NoLimit) (gens : s.gens = #[])
    (scr : s.heap.get? a = some { cls := .type "list", data := .seq vs.toArray }) (room : Room k callerA) (F : ∀ base : Heap, K.In base → base.Ns mainGlobals mg → FnOkG P w K mg base k fa fd [x] sp)
    (bind : ∀ (s : Shared) (u : Value), BindsTo s fd ⟨[u], []⟩ [(x, u)]) (H : Hp) (want : sp [.ref a] H (fun v _ => v = .bl true) fun _ _ _ => False) (only : Only H) (ok : HOk P w H s.heap) (at_ : ∀ b, H b ≠ none → b = a) (out : H a ≠ none → K.lookup a = none) :
    codeAny (model P w) callerA (.call (.ref fa) ⟨[.ref a], []⟩) (fun r s' => r = .ok (.ret (.bool true)) ∧ OldK s.heap s'.heap ∧ s'.os = s.os ∧ AllBare s'.gens) s := by
  have case : ∀ b, H b = none ∨ b = a := fun b => by
    cases z : H b with
    | none => exact .inl rfl
    | some u => exact .inr (at_ b (by rw [z]; simp))
  have see : ∀ {b : Addr} {o : Obj}, s.heap.get? b = some o → H b = none → (hidT s.heap H).get? b = some o := fun z n => hidT_get z n
  have dicts : ∀ {b : Addr} {m : Str → Option Value}, s.heap.Ns b m → (hidT s.heap H).Ns b m := by
    rintro b m ⟨o, es, ep, z, d, r⟩
    refine ⟨o, es, ep, see z ?_, d, r⟩
    rcases case b with n | rfl
    · exact n
    · rw [scr] at z
      cases z
      cases (show Data.seq vs.toArray _ = Data.dict es ep from d)
  have KB : K.In (hidT s.heap H) := by
    intro b o z
    refine see (KX b o z) ?_
    rcases case b with n | rfl
    · exact n
    · cases y : H b with
      | none => rfl
      | some u =>
        rw [out (by rw [y]; simp)] at z
        cases z
  have nolim : (hidT s.heap H).NoLimit := by
    obtain ⟨mc, l1, l2⟩ := lim
    exact ⟨mc, dicts l1, l2⟩
  have en : Env0 P w K mg (hidT s.heap H) callerA [] s H := {
    frames := rfl
    mod := { kin := KB, glob := dicts gl, blt := ⟨mb, dicts bl, blt⟩, nolimit := nolim }
    bs := fun b o z => of_hidT z
    bsz := Nat.le_of_eq (hidT_size _ _)
    funs := trivial
    frf := fun b z => (List.not_mem_nil (show b ∈ ([] : List Addr) from z)).elim
    hok := ok
    bare := .of_eq gens }
  refine codeAny_mono ((F _ KB (dicts gl)).go callerA [] s H ⟨[.ref a], []⟩ [.ref a] [.ref a] _ _ room rfl en (bind s (.ref a)) (.cons rfl .nil) want) ?_
  intro r s' z
  cases r with
  | error e => exact False.elim z
  | ok fl =>
    cases fl with
    | ret u =>
      obtain ⟨v, H', z1, z2, un, ok', rv, z3⟩ := z
      obtain rfl : v = .bl true := z3
      obtain rfl : u = Value.bool true := rv
      refine ⟨rfl, OldK.of_keep ?_, z1, z2⟩
      intro b o y
      rcases only b with n | ⟨ob, xs, n⟩
      · exact un.keep b o y n List.not_mem_nil List.not_mem_nil
      · obtain ⟨y1, _⟩ := ok b _ n
        obtain ⟨y2, _⟩ := ok' b _ (un.frzs b ob _ n)
        rw [y] at y1
        cases y1
        exact y2
    | next => cases z
    | brk => cases z
    | cont => cases z
theorem lawG (KX : K.In s.heap) (gl : s.heap.Ns mainGlobals mg) (bl : s.heap.Ns builtinsNs mb) (blt : ∀ y : Str, y ≠ "__name__" → mb y = bootBuiltins y) (lim : s.heap.NoLimit) (gens : s.gens = #[])
    (scr : s.heap.get? a = some { cls := .type "list", data := .seq vs.toArray }) (nums : IntsAre vs ns) (small : ns.length ≤ sizeLine) (room : Room k callerA) (F : ∀ base : Heap, K.In base → base.Ns mainGlobals mg → FnOkG P w K mg base k fa fd [x] sp)
    (bind : ∀ (s : Shared) (u : Value), BindsTo s fd ⟨[u], []⟩ [(x, u)]) (want : ∀ H : Hp, Only H → SqL K H a (ns.map V.int) → sp [.ref a] H (fun v _ => v = .bl true) fun _ _ _ => False) :
    codeAny (model P w) callerA (.call (.ref fa) ⟨[.ref a], []⟩) (fun r s' => r = .ok (.ret (.bool true)) ∧ OldK s.heap s'.heap ∧ s'.os = s.os ∧ AllBare s'.gens) s := by
  have rel := vals_ints nums
  cases q : K.lookup a with
  | none =>
    let o : Obj := { cls := .type "list", data := .seq vs.toArray }
    let H : Hp := fun b => if b = a then some (.frz o (.lst (ns.map V.int))) else none
    have h1 : H a = some (.frz o (.lst (ns.map V.int))) := if_pos rfl
    have h2 : ∀ b, b ≠ a → H b = none := fun b z => if_neg z
    have only : Only H := fun b => by
      by_cases z : b = a
      · subst z
        exact .inr ⟨_, _, h1⟩
      · exact .inl (h2 b z)
    refine lawG_at KX gl bl blt lim gens scr room F bind H (want H only (.inl (.inr ⟨o, h1⟩))) only (fun b u z => ?_) (fun b z => ?_) fun _ => q
    · by_cases y : b = a
      · subst y
        rw [h1] at z
        cases z
        exact ⟨scr, by rw [List.length_map]; exact small, vs, _, rel, scr⟩
      · rw [h2 b y] at z
        cases z
    · by_cases y : b = a
      · exact y
      · exact (z (h2 b y)).elim
  | some o =>
    have z := KX a o q
    rw [scr] at z
    have eo := Option.some.inj z
    subst eo
    have n : vs.length = ns.length := nums.length
    refine lawG_at KX gl bl blt lim gens scr room F bind (fun _ => none) (want _ (fun _ => .inl rfl) (.inr ⟨_, vs.toArray, _, q, rfl, rfl, rfl, ?_, by simpa using rel⟩)) (fun _ => .inl rfl) (fun b u y => ?_) (fun b y => (y rfl).elim) (fun y => (y rfl).elim)
    · rw [List.size_toArray, n]
      exact small
    · cases (show (none : Option HO) = some u from y)
end
theorem walkG {l : PySem.W.OpenLaw} {n k : Nat} {q : Program} {loose : List Str} {XP : (Str → Option Value) → Heap → Prop} {YP : World → Heap → Prop} {d : DefRec} {x : Str} (most : l.most = some n) (n2 : n ≤ sizeLine) (nodef : d.params.defaults = []) (room : Room k callerA)
    (F : ∀ (w : World) (mg : Str → Option Value) (fa : Addr) (h : Heap), YP w h → h.Ns mainGlobals mg → mg d.name = some (.ref fa) → ∃ (K : PySem.W.Frag) (fd : FuncData) (sp : Sp), K.In h ∧ (∀ (s : Shared) (u : Value), BindsTo s fd ⟨[u], []⟩ [(x, u)]) ∧
      (∀ (H : Hp) (a : Addr) (ns : List Int), ns.length ≤ n → Only H → SqL K H a (ns.map V.int) → sp [.ref a] H (fun v _ => v = .bl true) fun _ _ _ => False) ∧ ∀ base : Heap, K.In base → base.Ns mainGlobals mg → FnOkG l.prog w K mg base k fa fd [x] sp) :
    PySem.W.WalkO q loose XP YP l.row.toRowW d [] (fun f vs => PySem.call f vs) := by
  refine Att.attach_call most nodef ?_
  intro w s₀ s₁ mg mb fa o pm cd doc a vs ns T Y _ _ _ isfa isobj nums len gens
  obtain ⟨K, fd, sp, KX, bind, want, ok⟩ := F w mg fa _ Y T.T.g isfa
  exact lawG KX T.T.g T.T.b T.T.builtins T.T.nolimit gens isobj nums (Nat.le_trans len n2) room ok bind fun H o z => want H a ns len o z
end L2
namespace Kr
open PySem L2
section
variable {P : Program} {w : World} {K : PySem.W.Frag} {mg : Str → Option Value} {base : Heap} {x : Str} {st : Stmt} {N ps : List Str} {k : Nat} {pre : List D → Prop} {R : List D → D → Prop}
theorem fnDG {f : Addr} {fd : FuncData} (F : Fun K x x st f fd) (S : FnScope N ps (defScope st)) (len : ∀ ds, pre ds → ds.length = ps.length)
    (text : ∀ (f : Addr) (cdv : Value) (A : Around) (fr : List PySem.Env) (s : Shared) (H : Hp) (E : XK), Room k (A.deeper (PyProof.Rows.envOfC x (defScope st) s.heap.objs.size f cdv)) → A.guards = some [] →
      ∃ t, PSs (cxOf CX0 P w K mg base N x (defScope st) f cdv A fr s H E).nox (defBody st) t ∧ ∀ ds, pre ds → dS E0 (fun _ _ => False) t (slots N ds) (Po.of (R ds))) : FnOkG P w K mg base (k + 1) f fd ps (spD pre R) := by
  refine fnOkG F S (fun vs H Q E h => ?_) (fun cdv A fr s H vs Q E room free h => ?_)
  · obtain ⟨Z, ds, _, r, hp, _⟩ := h
    exact r.length.trans (len ds hp)
  · obtain ⟨Z, ds, live, r, hp, q⟩ := h
    obtain ⟨t, ht, hd⟩ := text f cdv A fr s H E room free
    refine ⟨t, PSs.nox ht, ?_⟩
    have en := entry (N := N) (Z := []) (A0 := Z) (fun a h => by cases h) live r
    have old : ∀ {A' : List Addr} {σ' : L2.St} {H' : Hp} {G' : List Sl}, Env ⟨[], Z, Off Z H, H⟩ [] A' σ' H' G' → Same H H' := fun e => by
      have z := e.all
      rw [off_nil, off_nil] at z
      exact z
    exact hd ds hp ⟨[], Z, Off Z H, H⟩ Z _ H _ en (fun _ _ _ _ _ z => z.elim) (fun _ _ H' _ z e => q _ .non H' z (old e) .non) (fun _ _ _ _ z _ => z.elim) (fun _ _ _ _ z _ => z.elim) fun d v _ _ H' _ z e r => q v d H' z (old e) r
theorem conDG (h : DefAt K mg x st ps) (S : FnScope N ps (defScope st)) (len : ∀ ds, pre ds → ds.length = ps.length)
    (text : ∀ (f : Addr) (cdv : Value) (A : Around) (fr : List PySem.Env) (s : Shared) (H : Hp) (E : XK), Room k (A.deeper (PyProof.Rows.envOfC x (defScope st) s.heap.objs.size f cdv)) → A.guards = some [] →
      ∃ t, PSs (cxOf CX0 P w K mg base N x (defScope st) f cdv A fr s H E).nox (defBody st) t ∧ ∀ ds, pre ds → dS E0 (fun _ _ => False) t (slots N ds) (Po.of (R ds))) : ConG P w K mg base x ps (k + 1) (spD pre R) := by
  obtain ⟨f, fd, F, g, b⟩ := h.ex
  exact ⟨f, fd, g, F.kp, b, fnDG F S len text⟩
end
end Kr
/-! Kr17: a list of one's own that others name, too. -/
namespace Kr
open PySem L2
section
variable {β : Bs} {T A : List Addr} {σ : L2.St} {H H' : Hp} {G : List Sl} {a : Addr} {i : Nat} {ds : List D}
/-- one slot told otherwise, the values stay -/
theorem Env.reslot (e : Env β T A σ H G) {s s' : Sl} (hi : G[i]? = some s) (ho : s'.isOwn = true → s.isOwn = true) (h : ∀ o, σ[i]? = some o → SlOk β T A H o s → SlOk β T A H o s') : Env β T A σ H (G.set i s') := by
  have own : ∀ {j : Nat} {u : Sl}, (G.set i s')[j]? = some u → u.isOwn = true → ∃ u', G[j]? = some u' ∧ u'.isOwn = true := fun {j u} hj hu => by
    rcases set_get hj with ⟨rfl, rfl, _⟩ | ⟨_, hj⟩
    · exact ⟨s, hi, ho hu⟩
    · exact ⟨u, hj, hu⟩
  refine ⟨by rw [List.length_set]; exact e.len, fun j u hj => ?_, fun j k s1 s2 b h1 h2 o1 o2 g1 g2 => ?_, e.base, e.sub, e.zs, e.live, e.dj, e.all⟩
  · rcases set_get hj with ⟨rfl, rfl, _⟩ | ⟨_, hj⟩
    · obtain ⟨o, q1, q2⟩ := e.ok j s hi
      exact ⟨o, q1, h o q1 q2⟩
    · exact e.ok j u hj
  · obtain ⟨t1, w1, w2⟩ := own h1 o1
    obtain ⟨t2, w3, w4⟩ := own h2 o2
    exact e.dis j k t1 t2 b w1 w3 w2 w4 g1 g2
theorem Env.name (e : Env β T A σ H G) (hi : G[i]? = some (.own ds)) (hs : σ[i]? = some (some (V.ref a))) : Env β T A σ H (G.set i (.oat a ds)) :=
  e.reslot hi (fun _ => rfl) fun o q z => by
    obtain ⟨p, xs, rfl, h1, h2, h3⟩ := z
    rw [hs] at q
    cases q
    exact ⟨rfl, h1, xs, h2, h3⟩
theorem Env.unname (e : Env β T A σ H G) (hi : G[i]? = some (.oat a ds)) : Env β T A σ H (G.set i (.own ds)) :=
  e.reslot hi (fun _ => rfl) fun o q z => by
    obtain ⟨rfl, h1, xs, h2, h3⟩ := z
    exact ⟨a, xs, rfl, h1, h2, h3⟩
theorem Env.oat (e : Env β T A σ H G) (hi : G[i]? = some (.oat a ds)) : σ[i]? = some (some (V.ref a)) ∧ (a ∈ A ∧ a ∉ β.A0 ∧ β.H0 a = none) ∧ ∃ xs, H a = some (.lst xs) ∧ RpA (Off (T ++ A) H) xs ds := by
  obtain ⟨o, q, rfl, h⟩ := e.ok i _ hi
  exact ⟨q, h⟩
theorem Env.putA (e : Env β T A σ H G) {ds' : List D} {xs' : List V} (hi : G[i]? = some (.oat a ds)) (r : RpA (Off (T ++ A) H) xs' ds') : Env β T A σ (upd H a (.lst xs')) (G.set i (.oat a ds')) := by
  obtain ⟨s1, h1, _⟩ := e.oat hi
  have hl : i < G.length := (List.getElem?_eq_some_iff.mp hi).1
  have e1 := (e.unname hi).put (i := i) (List.getElem?_set_self hl) s1 h1.1 h1.2 r
  rw [List.set_set] at e1
  have e2 := e1.name (i := i) (List.getElem?_set_self hl) s1
  rw [List.set_set] at e2
  exact e2
end
section
variable {E E' : XK} {ex : Addr → D → Prop} {f : Bool} {G : List Sl} {te ta tb : TE} {Q : D → List Sl → Prop} {QA : List D → List Sl → Prop} {tr t1 t2 : TA} {P : Po} {i j : Nat} {a : Addr} {d : D} {ds : List D} {K : PySem.W.Frag}
/-- the list, looked at -/
theorem dE_oat (q : Q (.lst ds) G) (hi : G[i]? = some (.oat a ds)) : dE E ex false (tVar i) G Q := fun β T A σ H Qv en _ k => by
  obtain ⟨s, h, xs, ha, r⟩ := en.oat hi
  exact ⟨_, s, k (.lst ds) _ H G q en (Same.refl _) (.lst (off_of h.2.1 ha) (r.mono en.up))⟩
/-- the list, named only -/
theorem dE_oatN (q : Q (.fz none a) G) (hi : G[i]? = some (.oat a ds)) : dE E ex f (tVar i) G Q := fun β T A σ H Qv en _ k => by
  obtain ⟨s, _⟩ := en.oat hi
  exact ⟨_, s, k (.fz none a) _ H G q en (Same.refl _) (.fz fun o xs z => by cases z)⟩
/-- what names the list, seen with it -/
theorem dE_see {d' : D} (q : Q d' G) (hj : G[j]? = some (.imm d)) (hi : G[i]? = some (.oat a ds)) (up : ∀ F v, Rp F (.ref a) (.lst ds) → Rp F v d → Rp F v d') : dE E ex false (tVar j) G Q := fun β T A σ H Qv en _ k => by
  obtain ⟨_, h, xs, ha, r⟩ := en.oat hi
  obtain ⟨v, s, rv⟩ := en.get hj
  exact ⟨v, s, k d' _ H G q en (Same.refl _) (up _ v (.lst (off_of h.2.1 ha) (r.mono en.up)) (rv.mono en.up))⟩
/-- xs.append(e) -/
theorem dS_appendA {d' : D} (hi : G[i]? = some (.oat a ds)) (hl : ds.length < 1000000) (h : dE E ex true te G fun d G' => d = d' ∧ G' = G ∧ P.nx (G.set i (.oat a (ds ++ [d'])))) : dS E ex (tDrop (tBM K "list" rAppend (tVar i) (tCons te tNil))) G P := fun β A σ H Dn en w k1 _ _ _ => by
  obtain ⟨s, _, xs, ha, r⟩ := en.oat hi
  refine ⟨_, s, .inl ⟨rfl, xs, .inl (.inl ha)⟩, ?_⟩
  refine h β [] A σ H _ en w fun d v H1 G1 ⟨e1, e2, q⟩ en1 s1 r1 => ?_
  subst e1 e2
  obtain ⟨_, _, xs', ha', r'⟩ := en1.oat hi
  refine ⟨a, xs', v, rfl, rfl, ha', ?_, ?_⟩
  · rw [r'.length, sizeLine_eq]; omega
  · exact k1 A σ _ _ q (en1.putA hi (r'.append (.one r1)))
/-- x = f(purse, ys + [[..], [..]]), f gives one of these: one of the two lists is one's own then -/
theorem dS_drawL {pi : Nat} {p : Addr} {n m : Nat} {pl ds1 ds2 : List D} {pre : List D → Prop} {R : List D → D → Prop} (hp : G[pi]? = some (.pur p n)) (hj : G[j]? = some (.imm (.lst pl))) (hne : pi ≠ i)
    (h1 : dA E ex true t1 G fun ds G1 => ds = ds1 ∧ G1 = G) (h2 : dA E ex true t2 G fun ds G1 => ds = ds2 ∧ G1 = G) (hl1 : ds1.length ≤ 1000) (hl2 : ds2.length ≤ 1000) (hlp : pl.length ≤ 1000) (hn : n + m ≤ 1000000000)
    (hpre : ∀ l : List D, l.length = pl.length + 2 → pre [.lst l]) (hR : ∀ l d, R [.lst l] d → d ∈ l)
    (q0 : ∀ d, d ∈ pl → P.nx ((G.set pi (.pur p (n + m))).set i (.imm d))) (q1 : ∀ a, P.nx ((G.set pi (.pur p (n + m))).set i (.oat a ds1))) (q2 : ∀ a, P.nx ((G.set pi (.pur p (n + m))).set i (.oat a ds2))) :
    dS E ex (tAsg (tCall (spP pre R m) [] E' (tCons (tVar pi) (tCons (tOp (rAddA K) (tVar j) (tLst (tCons (tLst t1) (tCons (tLst t2) tNil)))) tNil))) (gName i)) G P := fun β A σ H Dn en w k1 _ _ _ => by
  obtain ⟨o, s1, rfl, hz, _⟩ := en.ok pi _ hp
  obtain ⟨vj, sj, rj⟩ := en.get hj
  refine ⟨_, s1, _, sj, ?_⟩
  refine h1 β [] A σ H _ en w fun ds xs1 H1 G1 ⟨e1, e2⟩ en1 sm1 r1 => ?_
  have e1 := e1.symm
  have e2 := e2.symm
  subst e1
  subst e2
  have le : ∀ {k : Nat}, k ≤ 1000 → k ≤ sizeLine := fun h => by rw [sizeLine_eq]; omega
  refine ⟨by rw [r1.length]; exact le hl1, fun a1 n1 => ?_⟩
  have enA := en1.tmp (o := .lst xs1) n1
  have hidA : Same (Off ([] ++ A) H1) (Off ([a1] ++ A) (upd H1 a1 (.lst xs1))) := off_hid n1
  refine h2 β [a1] A σ _ _ enA w fun ds xs2 H2 G2 ⟨e1, e2⟩ en2 sm2 r2 => ?_
  have e1 := e1.symm
  have e2 := e2.symm
  subst e1
  subst e2
  refine ⟨by rw [r2.length]; exact le hl2, fun a2 n2 => ?_⟩
  have enB := en2.tmp (o := .lst xs2) n2
  have hidB : Same (Off ([a1] ++ A) H2) (Off ([a2, a1] ++ A) (upd H2 a2 (.lst xs2))) := off_hid n2
  refine ⟨by rw [sizeLine_eq]; exact (by decide : 2 ≤ 16777216), fun q n3 => ?_⟩
  have g3 : Same (upd H2 a2 (HO.lst xs2)) (upd (upd H2 a2 (.lst xs2)) q (.lst [.ref a1, .ref a2])) := same_new n3
  have enC := enB.grow g3
  have vA : Same (Off ([] ++ A) H) (Off ([a2, a1] ++ A) (upd (upd H2 a2 (.lst xs2)) q (.lst [.ref a1, .ref a2]))) := (((en.vw sm1).trans hidA).trans (enA.vw sm2)).trans (hidB.trans (off_same g3))
  cases rj with
  | @lst lj ysj _ haj raj =>
    have hajC := off_some (vA _ _ haj)
    have vB : Same (Off ([a2, a1] ++ A) (upd (upd H2 a2 (.lst xs2)) q (.lst [.ref a1, .ref a2]))) (upd (upd H2 a2 (.lst xs2)) q (.lst [.ref a1, .ref a2])) := off_in
    refine .inr (.inr (.inl ⟨lj, q, ysj, [.ref a1, .ref a2], rfl, rfl, hajC.2, upd_same, ?_, fun z nz => ?_⟩))
    · rw [raj.length]
      rw [sizeLine_eq]
      simp only [List.length_cons, List.length_nil]
      omega
    have g4 := same_new (o := HO.lst (ysj ++ [.ref a1, .ref a2])) nz
    have enD := enC.grow g4
    have vC := vA.trans (off_same (A := [a2, a1] ++ A) g4)
    show spP pre R m ([V.ref p, V.ref z] ++ []) _ (fun x H1 => gName i x σ H1 Dn.nx) E'
    rw [List.append_nil]
    obtain ⟨o', s1', rfl, hz', pu⟩ := enD.ok pi _ hp
    rw [s1] at s1'
    cases s1'
    have znew : z ∉ [a2, a1] ++ A := fun y => enC.live z y nz
    have rl : Rp (Off ([a2, a1] ++ A) (upd (upd (upd H2 a2 (.lst xs2)) q (.lst [.ref a1, .ref a2])) z (.lst (ysj ++ [.ref a1, .ref a2])))) (.ref z) (.lst (pl ++ [.fz none a1, .fz none a2])) :=
      .lst (off_of znew upd_same) ((raj.mono vC).append (.cons (.fz fun o xs y => by cases y) (.cons (.fz fun o xs y => by cases y) .nil)))
    refine ⟨p, [.ref z], [a2, a1] ++ A, [.lst (pl ++ [.fz none a1, .fz none a2])], n, rfl, enD.zA p hz', enD.live, pu, hn, .cons rl .nil, hpre _ (by simp), fun v d H6 hd old pu6 rv => ?_⟩
    obtain ⟨enE, smE⟩ := enD.bump hp old pu6
    have mem := hR _ d hd
    have pA : ∀ b, b ∈ [a2, a1] ++ A → b ∉ A → b ≠ p := fun b _ hb y => hb (y ▸ en.sub p (en.zs p hz'))
    have inD : ∀ {b o}, upd (upd (upd H2 a2 (HO.lst xs2)) q (.lst [.ref a1, .ref a2])) z (.lst (ysj ++ [.ref a1, .ref a2])) b = some o → b ≠ p → H6 b = some o := fun {b o} y hb => old b o hb y
    have a1A : a1 ∉ A := fun y => en1.live a1 y n1
    have a2A : a2 ∉ [a1] ++ A := fun y => en2.live a2 y n2
    have ne12 : a2 ≠ a1 := fun y => a2A (by rw [y]; exact List.mem_cons_self)
    have pin : p ∈ A := en.sub p (en.zs p hz')
    have at1 : H6 a1 = some (.lst xs1) := by
      have y1 : H2 a1 = some (.lst xs1) := (off_some (sm2 a1 _ (off_of (fun y => a1A (en.sub a1 (en.zs a1 y))) upd_same))).2
      have y2 := g3 _ _ (show upd H2 a2 (HO.lst xs2) a1 = some (.lst xs1) by rw [upd_ne (Ne.symm ne12)]; exact y1)
      exact inD (g4 _ _ y2) fun y => a1A (y ▸ pin)
    have at2 : H6 a2 = some (.lst xs2) := inD (g4 _ _ (g3 _ _ upd_same)) fun y => a2A (List.mem_cons_of_mem _ (y ▸ pin))
    have vE : Same (Off ([a2, a1] ++ A) (upd (upd (upd H2 a2 (.lst xs2)) q (.lst [.ref a1, .ref a2])) z (.lst (ysj ++ [.ref a1, .ref a2])))) (Off ([a2, a1] ++ A) H6) := enD.vw smE
    have base1 : β.H0 a1 = none := en1.fresh0 n1
    have base2 : β.H0 a2 = none := enA.fresh0 (by
      cases y : upd H1 a1 (HO.lst xs1) a2 with
      | none => rfl
      | some u =>
        by_cases hb : a2 ∈ β.Z
        · exact absurd n2 (en2.live a2 (en2.zA a2 hb))
        · have := (off_some (sm2 a2 u (off_of hb y))).2
          rw [n2] at this
          cases this)
    have hlen : i < G.length ∨ G.length ≤ i := Nat.lt_or_ge i G.length
    rcases List.mem_append.mp mem with hm | hm
    · have up : Same (Off ([a2, a1] ++ A) H6) (Off ([] ++ A) H6) := off_le fun b hb => List.mem_append_right _ hb
      exact k1 A _ H6 _ (q0 d hm) ((enE.untmp.untmp).set (i := i) (rv.mono up))
    · have two : d = .fz none a1 ∨ d = .fz none a2 := by
        rcases List.mem_cons.mp hm with y | y
        · exact .inl y
        · exact .inr (List.mem_singleton.mp y)
      rcases two with rfl | rfl
      · cases rv
        have r1' : RpA (Off ([a1] ++ A) H6) xs1 ds1 := r1.mono ((((hidA.trans (enA.vw sm2)).trans (hidB.trans (off_same g3))).trans (off_same g4)).trans (vE.trans (off_le fun b hb => List.mem_cons_of_mem _ hb)))
        have e5 := (enE.untmp).own (i := i) (xs := xs1) (ds := ds1) at1 (fun y => a1A y) base1 r1'
        by_cases hi : i < G.length
        · have e6 := e5.name (i := i) (a := a1) (List.getElem?_set_self (by rw [List.length_set]; exact hi)) (List.getElem?_set_self (by rw [en.len]; exact hi))
          rw [List.set_set] at e6
          exact k1 _ _ H6 _ (q1 a1) e6
        · have e7 : ∀ s : Sl, (G.set pi (.pur p (n + m))).set i s = G.set pi (.pur p (n + m)) := fun s => List.set_eq_of_length_le (by rw [List.length_set]; omega)
          rw [e7] at e5
          have := q1 a1
          rw [e7] at this
          exact k1 _ _ H6 _ this e5
      · cases rv
        have r2' : RpA (Off ([a2, a1] ++ A) H6) xs2 ds2 := r2.mono (((hidB.trans (off_same g3)).trans (off_same g4)).trans vE)
        have e5 := enE.own (i := i) (xs := xs2) (ds := ds2) at2 a2A base2 r2'
        have e5 := e5.untmp
        by_cases hi : i < G.length
        · have e6 := e5.name (i := i) (a := a2) (List.getElem?_set_self (by rw [List.length_set]; exact hi)) (List.getElem?_set_self (by rw [en.len]; exact hi))
          rw [List.set_set] at e6
          exact k1 _ _ H6 _ (q2 a2) e6
        · have e7 : ∀ s : Sl, (G.set pi (.pur p (n + m))).set i s = G.set pi (.pur p (n + m)) := fun s => List.set_eq_of_length_le (by rw [List.length_set]; omega)
          rw [e7] at e5
          have := q2 a2
          rw [e7] at this
          exact k1 _ _ H6 _ this e5
end
end Kr
namespace Kr
open PySem L2
section
variable {E : XK} {ex : Addr → D → Prop} {f : Bool} {G : List Sl} {tk tv : TE} {Q : D → List Sl → Prop}
/-- {k: v} -/
theorem dE_dispG (h : dE E ex true tk G fun d G1 => ∃ x, d = .str x ∧ dE E ex true tv G1 fun dv G2 => Q (.dic [.inr x] [dv]) G2) : dE E ex f (tDisp [(tk, tv)]) G Q := fun β T A σ H Qv en w k p hp => by
  have en0 := en.tmp (o := .dK []) hp
  refine h β (p :: T) A σ _ _ en0 w fun d u H1 G1 ⟨x, e, h2⟩ en1 s1 r1 => ?_
  subst e
  cases r1
  refine h2 β (p :: T) A σ H1 _ en1 w fun dv v H2 G2 q en2 s2 r2 => ?_
  have pTA : p ∉ T ++ A := fun z => en.live p z hp
  have pA0 : p ∉ β.A0 := fun z => en.live p (en.a0A p z) hp
  have pZ : p ∉ β.Z := fun z => pA0 (en.zs p z)
  have at2 : H2 p = some (.dK []) := (off_some ((s1.trans s2) p _ (off_of pZ upd_same))).2
  refine ⟨at2, [(.inr x, v)], rfl, (by decide : 1 ≤ 15), ?_⟩
  have en3 := (en2.retmp (o := .dK (mergeK [] [(.inr x, v)])) (en.fresh0 hp)).untmp
  have sm : Sm β H (upd H2 p (.dK (mergeK [] [(.inr x, v)]))) := fun b o z => by
    obtain ⟨z1, z2⟩ := off_some z
    have hb : b ≠ p := fun y => by rw [y, hp] at z2; cases z2
    have z3 := (off_some ((s1.trans s2) b o (off_of z1 (by rw [upd_ne hb]; exact z2)))).2
    exact off_of z1 (by rw [upd_ne hb]; exact z3)
  have pm : p ∈ (p :: T) ++ A := List.mem_cons_self
  have r3 : Rp (Off (T ++ A) (upd H2 p (.dK (mergeK [] [(.inr x, v)])))) v dv := by
    have z : Rp (Off ((p :: T) ++ A) H2) v dv := r2
    rw [← off_upd (o := .dK (mergeK [] [(.inr x, v)])) pm] at z
    exact z.mono (off_le fun b hb => List.mem_cons_of_mem _ hb)
  refine k _ _ _ G2 q en3 sm ?_
  cases f with
  | true => exact .dic (vs := [v]) (off_of pTA upd_same) rfl rfl (.one r3)
  | false => exact .dic (vs := [v]) (off_of pA0 upd_same) rfl rfl (.one (r3.mono en3.up))
end
end Kr
namespace Kr
open PySem L2
section
variable {E E' : XK} {ex : Addr → D → Prop} {G : List Sl} {t1 t2 : TA} {P : Po} {i j : Nat} {K : PySem.W.Frag}
theorem dS_drawO {pi : Nat} {p : Addr} {n m : Nat} {pl ds1 ds2 : List D} {pre : List D → Prop} {R : List D → D → Prop} (hp : G[pi]? = some (.pur p n)) (hj : G[j]? = some (.imm (.lst pl))) (hne : pi ≠ i)
    (h1 : dA E ex true t1 G fun ds G1 => ds = ds1 ∧ G1 = G) (h2 : dA E ex true t2 G fun ds G1 => ds = ds2 ∧ G1 = G) (hl1 : ds1.length ≤ 1000) (hl2 : ds2.length ≤ 1000) (hlp : pl.length ≤ 1000) (hn : n + m ≤ 1000000000)
    (hpre : ∀ l : List D, l.length = pl.length + 2 → pre [.lst l]) (hR : ∀ l d, R [.lst l] d → d ∈ l)
    (q0 : ∀ d, d ∈ pl → P.nx ((G.set pi (.pur p (n + m))).set i (.imm d))) (q1 : ∀ a ds, ds = ds1 ∨ ds = ds2 → P.nx ((G.set pi (.pur p (n + m))).set i (.oat a ds))) :
    dS E ex (tAsg (tCall (spP pre R m) [] E' (tCons (tVar pi) (tCons (tOp (rAddA K) (tVar j) (tLst (tCons (tLst t1) (tCons (tLst t2) tNil)))) tNil))) (gName i)) G P :=
  dS_drawL hp hj hne h1 h2 hl1 hl2 hlp hn hpre hR q0 (fun a => q1 a ds1 (.inl rfl)) fun a => q1 a ds2 (.inr rfl)
end
end Kr
namespace Kr
open PySem L2
section
variable {E : XK} {ex : Addr → D → Prop} {G : List Sl} {ta tb tc : TE} {P : Po} {i j l : Nat}
/-- x, y, z = a, b, c -/
theorem dS_par3 (h : dE E ex true ta G fun d G1 => dE E ex true tb G1 fun e G2 => dE E ex true tc G2 fun c G3 => P.nx (((G3.set i (.imm d)).set j (.imm e)).set l (.imm c))) : dS E ex (tPar3 i j l (tCons ta (tCons tb (tCons tc tNil)))) G P := fun β A σ H Dn en w k1 _ _ _ => by
  unfold tPar3 tCons tNil
  refine h β [] A σ H _ en w fun d v H1 G1 q en1 s1 r1 => ?_
  refine q β [] A σ H1 _ en1 w fun e u H2 G2 q2 en2 s2 r2 => ?_
  refine q2 β [] A σ H2 _ en2 w fun c x H3 G3 q3 en3 s3 r3 => ?_
  exact ⟨_, _, _, rfl, k1 A _ H3 _ q3 (((en3.set (i := i) (Rp.mono ((en1.vw s2).trans (en2.vw s3)) r1)).set (i := j) (Rp.mono (en2.vw s3) r2)).set (i := l) r3)⟩
end
end Kr
namespace K1
open PySem L2 Kr
/-- the i-th class -/
def cl (K : PySem.W.Frag) (i : Nat) : Addr := He.ga K (every.getD i Str.empty)
abbrev nm (i : Nat) : Str := every.getD i Str.empty
abbrev s__law_purse : Stmt := topS 38
abbrev n__law_purse : List Str := ["_law_script", "_law_at", "_law_seed"]
abbrev p__law_purse : List Str := ["_law_script", "_law_at"]
theorem sc__law_purse : FnScope n__law_purse p__law_purse (defScope s__law_purse) := ⟨rfl, rfl, rfl, by decide +kernel, rfl, by decide +kernel, by decide +kernel⟩
abbrev s__law_mixed : Stmt := topS 39
abbrev n__law_mixed : List Str := ["_law_seed", "_law_turn", "_law_at", "_law_mixed_here"]
abbrev p__law_mixed : List Str := ["_law_seed", "_law_turn", "_law_at"]
theorem sc__law_mixed : FnScope n__law_mixed p__law_mixed (defScope s__law_mixed) := ⟨rfl, rfl, rfl, by decide +kernel, rfl, by decide +kernel, by decide +kernel⟩
abbrev s__law_draw : Stmt := topS 40
abbrev n__law_draw : List Str := ["_law_purse_here", "_law_many", "_law_drawn", "_law_found", "_law_piece"]
abbrev p__law_draw : List Str := ["_law_purse_here", "_law_many"]
theorem sc__law_draw : FnScope n__law_draw p__law_draw (defScope s__law_draw) := ⟨rfl, rfl, rfl, by decide +kernel, rfl, by decide +kernel, by decide +kernel⟩
abbrev s__law_purses : Stmt := topS 41
abbrev n__law_purses : List Str := ["_law_script", "_law_few", "_law_at"]
abbrev p__law_purses : List Str := ["_law_script", "_law_few"]
theorem sc__law_purses : FnScope n__law_purses p__law_purses (defScope s__law_purses) := ⟨rfl, rfl, rfl, by decide +kernel, rfl, by decide +kernel, by decide +kernel⟩
abbrev s__law_one_of : Stmt := topS 42
abbrev n__law_one_of : List Str := ["_law_purse_here", "_law_some"]
abbrev p__law_one_of : List Str := ["_law_purse_here", "_law_some"]
theorem sc__law_one_of : FnScope n__law_one_of p__law_one_of (defScope s__law_one_of) := ⟨rfl, rfl, rfl, by decide +kernel, rfl, by decide +kernel, by decide +kernel⟩
abbrev s__law_word : Stmt := topS 43
abbrev n__law_word : List Str := ["_law_purse_here", "_law_size", "_law_turn"]
abbrev p__law_word : List Str := ["_law_purse_here"]
theorem sc__law_word : FnScope n__law_word p__law_word (defScope s__law_word) := ⟨rfl, rfl, rfl, by decide +kernel, rfl, by decide +kernel, by decide +kernel⟩
abbrev s__law_first : Stmt := topS 44
abbrev n__law_first : List Str := ["_law_thing", "_law_found"]
abbrev p__law_first : List Str := ["_law_thing"]
theorem sc__law_first : FnScope n__law_first p__law_first (defScope s__law_first) := ⟨rfl, rfl, rfl, by decide +kernel, rfl, by decide +kernel, by decide +kernel⟩
abbrev s__law_called : Stmt := topS 45
abbrev n__law_called : List Str := ["_law_thing", "_law_found"]
abbrev p__law_called : List Str := ["_law_thing"]
theorem sc__law_called : FnScope n__law_called p__law_called (defScope s__law_called) := ⟨rfl, rfl, rfl, by decide +kernel, rfl, by decide +kernel, by decide +kernel⟩
abbrev s__law_bare : Stmt := topS 46
abbrev n__law_bare : List Str := ["_law_found"]
abbrev p__law_bare : List Str := []
theorem sc__law_bare : FnScope n__law_bare p__law_bare (defScope s__law_bare) := ⟨rfl, rfl, rfl, by decide +kernel, rfl, by decide +kernel, by decide +kernel⟩
abbrev s__law_code : Stmt := topS 47
abbrev n__law_code : List Str := ["_law_error", "_law_found", "_law_at"]
abbrev p__law_code : List Str := ["_law_error"]
theorem sc__law_code : FnScope n__law_code p__law_code (defScope s__law_code) := ⟨rfl, rfl, rfl, by decide +kernel, rfl, by decide +kernel, by decide +kernel⟩
abbrev s__law_is_error : Stmt := topS 48
abbrev n__law_is_error : List Str := ["_law_error"]
abbrev p__law_is_error : List Str := ["_law_error"]
theorem sc__law_is_error : FnScope n__law_is_error p__law_is_error (defScope s__law_is_error) := ⟨rfl, rfl, rfl, by decide +kernel, rfl, by decide +kernel, by decide +kernel⟩
abbrev s__law_right : Stmt := topS 49
abbrev n__law_right : List Str := ["_law_some", "_law_noted", "_law_error", "_law_at"]
abbrev p__law_right : List Str := ["_law_some", "_law_noted"]
theorem sc__law_right : FnScope n__law_right p__law_right (defScope s__law_right) := ⟨rfl, rfl, rfl, by decide +kernel, rfl, by decide +kernel, by decide +kernel⟩
abbrev s_law : Stmt := topS 50
abbrev n_law : List Str := ["_law_script", "_law_purse_here", "_law_word_here", "_law_plain", "_law_thing", "_law_noted", "_law_some", "_law_called_here", "_law_later", "_law_rest", "_law_error"]
abbrev p_law : List Str := ["_law_script"]
theorem sc_law : FnScope n_law p_law (defScope s_law) := ⟨rfl, rfl, rfl, by decide +kernel, rfl, by decide +kernel, by decide +kernel⟩
structure Txt (K : PySem.W.Frag) (mg : Str → Option Value) : Prop where
  d__law_purse : DefAt K mg "_law_purse" s__law_purse p__law_purse
  d__law_mixed : DefAt K mg "_law_mixed" s__law_mixed p__law_mixed
  d__law_draw : DefAt K mg "_law_draw" s__law_draw p__law_draw
  d__law_purses : DefAt K mg "_law_purses" s__law_purses p__law_purses
  d__law_one_of : DefAt K mg "_law_one_of" s__law_one_of p__law_one_of
  d__law_word : DefAt K mg "_law_word" s__law_word p__law_word
  d__law_first : DefAt K mg "_law_first" s__law_first p__law_first
  d__law_called : DefAt K mg "_law_called" s__law_called p__law_called
  d__law_bare : DefAt K mg "_law_bare" s__law_bare p__law_bare
  d__law_code : DefAt K mg "_law_code" s__law_code p__law_code
  d__law_is_error : DefAt K mg "_law_is_error" s__law_is_error p__law_is_error
  d__law_right : DefAt K mg "_law_right" s__law_right p__law_right
  d_law : DefAt K mg "law" s_law p_law
  n_ValueError : mg "ValueError" = none
  n_all : mg "all" = none
  n_int : mg "int" = none
  n_isinstance : mg "isinstance" = none
  n_len : mg "len" = none
  n_list : mg "list" = none
  n_max : mg "max" = none
  n_min : mg "min" = none
  n_range : mg "range" = none
  n_repr : mg "repr" = none
  n_sum : mg "sum" = none
/-- what the top says of the classes -/
structure Cl (P : Program) (K : PySem.W.Frag) (mg : Str → Option Value) : Prop where
  va : ∀ i, i < 33 → PySem.Kex.ValTxt P K mg (nm i) (cl K i) (Kh.iAd K (nm i))
  gl : ∀ i, i < 36 → mg (nm i) = some (.ref (cl K i))
  kp : ∀ i, 33 ≤ i → i < 36 → PySem.W.keepIn K (.ref (cl K i)) = true
  exc : ∀ i, 33 ≤ i → i < 36 → PySem.W.excIn K (cl K i) He.veBase "ValueError.__new__" = true
  isi : ∀ i, i < 36 → ExcC K (cl K i)
  kit : ∀ i j, i < 36 → j < 36 → PySem.W.kitOne K (.ref (cl K i)) (.ref (cl K j)) = some (decide (i = j) || decide (j = 35))
  ve : ∀ i, i < 36 → PySem.W.kitOne K (.ref (cl K i)) (.type "ValueError") = some true
  sep : ∀ i j, i < 36 → j < 36 → cl K i = cl K j → i = j
  sys : (K.lookup sysModules).isSome = true
end K1
namespace K1
open PySem L2 Kr
local macro_rules | `(tactic| one_item) => `(tactic| first
  | (with_reducible refine dS_seq ?_) | (with_reducible refine dS_ret ?_) | (with_reducible refine dS_if ?_) | (with_reducible refine dS_next ?_) | (with_reducible refine dS_nextE ?_) | (with_reducible refine dS_brkE ?_) | (with_reducible refine dS_ctE ?_)
  | (with_reducible refine dT_B ?_) | (with_reducible refine dT_test ?_) | (with_reducible refine dT_and ?_) | (with_reducible refine dT_or ?_) | (with_reducible refine dT_not ?_)
  | (with_reducible refine dE_and ?_) | (with_reducible refine dE_or ?_) | (with_reducible refine dE_not ?_) | (with_reducible refine dE_if ?_)
  | (with_reducible refine dE_int ?_) | (with_reducible refine dE_str ?_) | (with_reducible refine dE_bl ?_) | (with_reducible refine dE_non ?_)
  | ((with_reducible refine dE_varE ?_); refine ⟨_, rfl, ?_⟩) | ((with_reducible refine dE_ownE ?_); refine ⟨_, rfl, ?_⟩)
  | (with_reducible refine dE_ix ?_) | (with_reducible refine dE_op2 ?_) | (with_reducible refine dE_chain ?_) | (with_reducible refine dE_un ?_) | (with_reducible refine dA_cons ?_) | (with_reducible refine dA_nil ?_) | (with_reducible refine dE_callF ?_) | (with_reducible refine dE_tup ?_)
  | (refine ⟨fun (_ : true = true) => ?_, fun z => Bool.noConfusion z⟩) | (refine ⟨fun z => Bool.noConfusion z, fun (_ : false = false) => ?_⟩)
  | (with_reducible refine dE_callP (i := 0) rfl ?_)
  | (with_reducible refine dE_isStr ?_) | (with_reducible refine dE_isInt ?_) | (with_reducible refine dE_isBool ?_) | (with_reducible refine dE_isList ?_) | (with_reducible refine dE_isTup ?_) | (with_reducible refine dE_isDict ?_) | (with_reducible refine dE_cb ?_) | (with_reducible refine dE_lc ?_) | (with_reducible refine dE_lstF ?_) | (with_reducible refine dI_list ?_) | (with_reducible refine dI_tup ?_) | (with_reducible refine dI_str ?_) | (with_reducible refine dI_rng1 ?_) | (with_reducible refine dI_rng2 ?_) | (with_reducible refine dS_set ?_) | (with_reducible refine dS_augI ?_) | (with_reducible refine dS_brk ?_) | (with_reducible refine dS_ct ?_) | (with_reducible refine dO_none ?_) | (with_reducible refine dO_some ?_))
local macro_rules | `(tactic| one_place) => `(tactic| (repeat' one_item))
section
variable {P : Program} {w : World} {K : PySem.W.Frag} {mg : Str → Option Value} {base : Heap}
theorem small {n : Nat} (h : n ≤ 1000000) : n ≤ sizeLine := by rw [sizeLine_eq]; omega
abbrev S (l : List Nat) : Str := ⟨l.toArray⟩
theorem S_cat (a b : List Nat) : S a ++ S b = S (a ++ b) := by
  show (⟨a.toArray ++ b.toArray⟩ : Str) = _
  simp
theorem S_len (a : List Nat) : (S a).length = a.length := by simp [Str.length]
abbrev k_LETTERS : Str := Str.ofString "abcdefghijklmnopqrstuvwxyz"
abbrev LET : List Nat := k_LETTERS.cps.toList
/-! ### the law's purse -/
abbrev sp_mixed : Sp := spD (fun ds => ∃ a b c : Int, ds = [.int a, .int b, .int c] ∧ 0 ≤ a ∧ a < 2147483648 ∧ 0 ≤ b ∧ b ≤ 1000000000 ∧ 0 ≤ c ∧ c < 1000) (fun _ d => ∃ n : Int, d = .int n ∧ 0 ≤ n ∧ n < 2147483587)
theorem ok_mixed (T : Txt K mg) : Con P w K mg base "_law_mixed" p__law_mixed 2 sp_mixed := by
  refine conD T.d__law_mixed sc__law_mixed (fun ds h => ?_) (fun f cdv A outer s H E hr => ⟨_, (pss_cons (ps_set (i := 3) sc__law_mixed.nd rfl (.inl rfl) (pe_op op_addA (pe_op op_mulA (pv 0) pe_int) (pe_op op_mulA (pe_op op_mulA pe_int (pv 1)) (pv 1))))
      (pss_cons (ps_set (i := 3) sc__law_mixed.nd rfl (.inl rfl) (pe_op op_modA (pe_callTy call_intA (by rfl) T.n_int (by decide +kernel) (pa_cons (pe_op op_addA (pe_op op_addA (pv 3) (pe_op op_mulA pe_int (pv 2))) (pv 1)) pa_nil)) pe_int))
      (pss_cons (ps_set (i := 3) sc__law_mixed.nd rfl (.inl rfl) (pe_op op_modA (pe_callTy call_intA (by rfl) T.n_int (by decide +kernel) (pa_cons (pe_op op_addA (pe_op op_mulA (pv 3) (pv 3)) pe_int) pa_nil)) pe_int))
      (pss_one (ps_ret (pe_op op_modA (pe_callTy call_intA (by rfl) T.n_int (by decide +kernel) (pa_cons (pe_op op_mulA (pv 3) pe_int) pa_nil)) pe_int)))))), fun ds h => ?_⟩)
  · obtain ⟨a, b, c, rfl, _⟩ := h
    rfl
  · obtain ⟨a, b, c, rfl, ha, ha2, hb, hb2, hc, hc2⟩ := h
    one_place
    refine ⟨_, od_mul (.inr ⟨by decide, by decide⟩), ?_⟩
    one_place
    refine ⟨_, od_mul (.inl ⟨by decide, by decide⟩), ?_⟩
    one_place
    refine ⟨_, od_mul (.inr ⟨by omega, by omega⟩), ?_⟩
    refine ⟨_, od_add, ?_⟩
    one_place
    refine ⟨_, od_mul (.inl ⟨by decide, by decide⟩), _, od_add, ?_⟩
    one_place
    refine ⟨_, od_add, ?_⟩
    one_place
    refine ⟨_, ca_int, ?_⟩
    one_place
    refine ⟨_, od_mod (by decide), ?_⟩
    generalize hm : (a * 69069 + 104729 * b * b + 7919 * c + b) % 2147483647 = m
    have hm1 : 0 ≤ m ∧ m < 2147483647 := by
      rw [← hm]
      exact ⟨Int.emod_nonneg _ (by decide), Int.emod_lt_of_pos _ (by decide)⟩
    one_place
    refine ⟨_, od_mul (.inl ⟨by omega, by omega⟩), ?_⟩
    one_place
    refine ⟨_, od_add, ?_⟩
    one_place
    refine ⟨_, ca_int, ?_⟩
    one_place
    refine ⟨_, od_mod (by decide), ?_⟩
    generalize hn : (m * m + 40503) % 2147483629 = n
    have hn1 : 0 ≤ n ∧ n < 2147483629 := by
      rw [← hn]
      exact ⟨Int.emod_nonneg _ (by decide), Int.emod_lt_of_pos _ (by decide)⟩
    one_place
    refine ⟨_, od_mul (.inl ⟨by omega, by omega⟩), ?_⟩
    one_place
    refine ⟨_, ca_int, ?_⟩
    one_place
    refine ⟨_, od_mod (by decide), ?_⟩
    exact ⟨_, rfl, Int.emod_nonneg _ (by decide), Int.emod_lt_of_pos _ (by decide)⟩
theorem bits_le {m : Int} (h1 : 1 ≤ m) (h2 : m ≤ 1000000) : Builtin.Int.intBits m ≤ 20 := by
  unfold Builtin.Int.intBits
  split
  · omega
  · have h0 : m.natAbs ≠ 0 := by omega
    have : m.natAbs.log2 < 20 := (Nat.log2_lt h0).mpr (by omega)
    omega
abbrev sp_draw : Sp := spP (fun ds => ∃ m : Int, ds = [.int m] ∧ 1 ≤ m ∧ m ≤ 1000000) (fun ds d => ∃ m n : Int, ds = [.int m] ∧ d = .int n ∧ 0 ≤ n ∧ n < m) 1
theorem ok_draw (T : Txt K mg) (c__law_mixed : Con P w K mg base "_law_mixed" p__law_mixed 2 sp_mixed) : Con P w K mg base "_law_draw" p__law_draw 3 sp_draw := by
  refine conP T.d__law_draw sc__law_draw (fun ds h => ?_) (fun f cdv A outer s H E hr => ⟨_, (pss_cons (ps_if (pt_cmpR op_gtA (pe_ix ix_seq (pv 0) pe_int (fun _ _ => rfl)) pe_int (nomark _)) (pss_cons (ps_set (i := 2) sc__law_draw.nd rfl (.inl rfl) (pe_op op_modA (pe_callTy call_intA (by rfl) T.n_int (by decide +kernel) (pa_cons (pe_ix ix_seq (pv 0) pe_int (fun _ _ => rfl)) pa_nil)) (pv 1)))
      (pss_cons (ps_asg (pe_op op_divA (pe_ix ix_seq (pv 0) pe_int (fun _ _ => rfl)) (pv 1)) (pg_sub (pv 0) pe_int set_list))
      (pss_one (ps_ret (pv 2))))) pss_nil)
      (pss_cons (ps_set (i := 3) sc__law_draw.nd rfl (.inl rfl) pe_int)
      (pss_cons (ps_for PassesOwn.never rfl (pi_range1 (by rfl) T.n_range (pa_cons (pe_op op_addA pe_int (pe_op op_divA (pe_bits (pv 1)) pe_int)) pa_nil)) (pg_name (i := 4) sc__law_draw.nd rfl (.inl rfl)) (pss_cons (ps_asg (pe_op op_addA (pe_ix ix_seq (pv 0) pe_int (fun _ _ => rfl)) pe_int) (pg_sub (pv 0) pe_int set_list))
      (pss_one (ps_set (i := 3) sc__law_draw.nd rfl (.inl rfl) (pe_op op_addA (pe_op op_mulA (pv 3) pe_int) (pe_con c__law_mixed (hr.mono (by decide)) (by rfl) (pa_cons (pe_ix ix_seq (pv 0) pe_int (fun _ _ => rfl)) (pa_cons (pe_ix ix_seq (pv 0) pe_int (fun _ _ => rfl)) (pa_cons (pe_ix ix_seq (pv 0) pe_int (fun _ _ => rfl)) pa_nil)))))))))
      (pss_one (ps_ret (pe_op op_modA (pe_callTy call_intA (by rfl) T.n_int (by decide +kernel) (pa_cons (pv 3) pa_nil)) (pv 1))))))), fun ds p n h hn => ?_⟩)
  · obtain ⟨m, rfl, _⟩ := h
    rfl
  · obtain ⟨m, rfl, h1, h2⟩ := h
    refine dS_seq (dS_if (dT_test (dE_op2 (dE_pur (i := 0) rfl (by decide) fun x hx => ?_))))
    one_place
    refine ⟨_, od_gt, _, rfl, ?_⟩
    cases hx0 : decide (0 < x) with
    | true =>
      refine ⟨fun _ => ?_, fun z => Bool.noConfusion z⟩
      refine dS_seq (dS_set (dE_op2 (dE_cb (dA_cons (dE_pur (i := 0) rfl (by decide) fun y hy => ?_)))))
      one_place
      refine ⟨_, ca_int, ?_⟩
      one_place
      refine ⟨_, od_mod (by omega), ?_⟩
      one_place
      refine dS_seq (dS_pur ⟨_, rfl⟩ (by decide) (dE_op2 (dE_pur (i := 0) rfl (by decide) fun z hz => ?_)))
      one_place
      refine ⟨_, od_div ⟨by omega, by omega⟩, _, n, n, rfl, rfl, Nat.le_refl _, ⟨Int.ediv_nonneg hz.1 (by omega), Int.lt_of_le_of_lt (Int.ediv_le_self _ hz.1) hz.2⟩, ?_⟩
      one_place
      exact ⟨⟨m, _, rfl, rfl, Int.emod_nonneg _ (by omega), Int.emod_lt_of_pos _ (by omega)⟩, n, by omega, rfl⟩
    | false =>
      refine ⟨fun z => Bool.noConfusion z, fun _ => ?_⟩
      one_place
      refine dS_for (vs := [4]) ?_
      refine dI_rng1 (dA_cons (dE_op2 (dE_int (dE_op2 (dE_bits ?_)))))
      one_place
      refine ⟨m, rfl, ?_⟩
      one_place
      have hb := bits_le h1 h2
      refine ⟨_, od_div ⟨by decide, by decide⟩, _, od_add, ?_⟩
      one_place
      refine ⟨_, rfl, by omega, by omega, ?_⟩
      have e1 : (1 + ((Builtin.Int.intBits m : Nat) : Int) / 28).toNat = 1 := by omega
      rw [e1]
      refine ⟨fun j G' => ∃ (F : Int) (n' : Nat) (s4 : Sl), 0 ≤ F ∧ (j = 0 → F = 0) ∧ n' ≤ n + j ∧ G' = [.pur p n', .imm (.int m), .any, .imm (.int F), s4], ⟨0, n, .any, by decide, fun _ => rfl, by omega, rfl⟩, fun j d G' hd ⟨F, n', s4, hF, hF0, hn', hG⟩ => ?_, fun G' ⟨F, n', s4, hF, hF0, hn', hG⟩ => ?_⟩
      · subst hG
        have hj : j = 0 := by
          have := (List.getElem?_eq_some_iff.mp hd).1
          rw [nats_length] at this
          omega
        subst hj
        have hF0 := hF0 rfl
        subst hF0
        refine dG_name (by decide) ?_
        refine dS_seq (dS_pur ⟨_, rfl⟩ (by decide) (dE_op2 (dE_pur (i := 0) rfl (by decide) fun x hx => ?_)))
        one_place
        refine ⟨_, od_add, _, n', n' + 1, rfl, rfl, by omega, ⟨?_, ?_⟩, ?_⟩
        · have := hx.1
          omega
        · have := hx.2
          omega
        refine dS_set (dE_op2 (dE_op2 (dE_varE ⟨_, rfl, dE_int ?_⟩)))
        refine ⟨_, od_mul (.inl ⟨by decide, by decide⟩), ?_⟩
        refine dE_call (dA_cons (dE_pur (i := 0) rfl (by decide) fun a ha => dA_cons (dE_pur (i := 0) rfl (by decide) fun b hb => dA_cons (dE_pur (i := 0) rfl (by decide) fun c hc => dA_nil ⟨⟨a, b, c, rfl, ha.1, ha.2, hb.1, ?_, hc.1, hc.2⟩, fun d ⟨r, hd, hr1, hr2⟩ => ?_⟩))))
        · have := hb.2
          omega
        · subst hd
          refine ⟨_, od_add, ?_⟩
          exact ⟨_, n' + 1, .imm d, by omega, fun z => by omega, by omega, rfl⟩
      · subst hG
        one_place
        refine ⟨_, ca_int, ?_⟩
        one_place
        refine ⟨_, od_mod (by omega), ?_⟩
        refine ⟨⟨m, _, rfl, rfl, Int.emod_nonneg _ (by omega), Int.emod_lt_of_pos _ (by omega)⟩, n', ?_, rfl⟩
        rw [nats_length] at hn'
        exact hn'
/-! ### words, numbers, tokens drawn -/
theorem join_S (a : List Nat) (l : List (List Nat)) : Txt.join (S a) (l.map S) = S (TL.joinL a l) := by
  have h := TL.tl_join (S a) (l.map S)
  have h2 : Txt.join (S a) (l.map S) = Str.join (S a) (l.map S) := StrLaws.glued_eq_join _ _
  rw [h2]
  have e : ((l.map S).map fun x : Str => x.cps.toList) = l := by
    rw [List.map_map]
    exact List.map_id' l
  have h3 : (Str.join (S a) (l.map S)).cps.toList = TL.joinL a ((l.map S).map fun x : Str => x.cps.toList) := h
  rw [e] at h3
  exact congrArg (fun z : List Nat => (⟨z.toArray⟩ : Str)) h3
theorem joinL_nil : ∀ l : List (List Nat), TL.joinL [] l = l.flatten
  | [] => rfl
  | [p] => by simp [TL.joinL]
  | p :: q :: r => by
    show p ++ ([] ++ TL.joinL [] (q :: r)) = _
    rw [List.nil_append, joinL_nil (q :: r)]
    simp
theorem chars {es : List D} {Pc : Nat → Prop} (h : ∀ (j : Nat) e, es[j]? = some e → ∃ c, e = .str ⟨#[c]⟩ ∧ Pc c) : ∃ cs : List Nat, es = (cs.map fun c => S [c]).map D.str ∧ cs.length = es.length ∧ ∀ c ∈ cs, Pc c := by
  induction es with
  | nil => exact ⟨[], rfl, rfl, fun c z => by cases z⟩
  | cons e es ih =>
    obtain ⟨c, rfl, hc⟩ := h 0 e rfl
    obtain ⟨cs, e1, e2, e3⟩ := ih fun j e z => h (j + 1) e z
    refine ⟨c :: cs, by rw [e1]; rfl, by rw [List.length_cons, e2, List.length_cons], fun x hx => ?_⟩
    rcases List.mem_cons.mp hx with z | z
    · rw [z]; exact hc
    · exact e3 x z
theorem flat_ones : ∀ cs : List Nat, (cs.map fun c => [c]).flatten = cs
  | [] => rfl
  | c :: cs => by
    rw [List.map_cons, List.flatten_cons, flat_ones cs]
    rfl
theorem join_chars (cs : List Nat) : Txt.join (Str.ofString "") (cs.map fun c => S [c]) = S cs := by
  have h := join_S [] (cs.map fun c => [c])
  rw [joinL_nil, List.map_map, flat_ones] at h
  exact h
theorem chars_sum (cs : List Nat) : ((cs.map fun c => S [c]).map (·.length)).sum = cs.length := by
  induction cs with
  | nil => rfl
  | cons c cs ih =>
    rw [List.map_cons, List.map_cons, List.sum_cons, ih, List.length_cons]
    have : (S [c]).length = 1 := rfl
    omega
abbrev sp_one_of : Sp := spP (fun ds => ∃ l, ds = [.lst l] ∧ 1 ≤ l.length ∧ l.length ≤ 1000) (fun ds d => ∀ l, ds = [.lst l] → d ∈ l) 1
theorem ok_one_of (T : Txt K mg) (c__law_draw : Con P w K mg base "_law_draw" p__law_draw 3 sp_draw) : Con P w K mg base "_law_one_of" p__law_one_of 4 sp_one_of := by
  refine conP T.d__law_one_of sc__law_one_of (fun ds h => ?_) (fun f cdv A outer s H E hr => ⟨_, (pss_one (ps_ret (pe_ix ix_seq (pv 1) (pe_con c__law_draw (hr.mono (by decide)) (by rfl) (pa_cons (pv 0) (pa_cons (pe_callB call_lenA (by rfl) T.n_len (by decide +kernel) (pa_cons (pv 1) pa_nil)) pa_nil))) (fun _ _ => rfl)))), fun ds p n h hn => ?_⟩)
  · obtain ⟨m, rfl, _⟩ := h
    rfl
  · obtain ⟨l, rfl, h1, h2⟩ := h
    one_place
    refine ⟨_, ca_len rfl, ?_⟩
    one_place
    refine ⟨n, rfl, ⟨_, rfl, by omega, by omega⟩, by omega, fun d ⟨m, r, e1, e2, r1, r2⟩ => ?_⟩
    subst e2
    cases e1
    have hz : l[r.toNat]? = some l[r.toNat] := List.getElem?_eq_getElem (by omega)
    refine ⟨r, l[r.toNat]'(by omega), rfl, .inl ⟨l, rfl, ?_⟩, fun m hm => ?_, n + 1, by omega, rfl⟩
    · have := atI_nat hz
      rwa [Int.toNat_of_nonneg r1] at this
    · cases hm
      exact List.getElem_mem _
theorem at_str {x : Str} {r : Int} (h0 : 0 ≤ r) (h1 : r < x.cps.toList.length) : ∃ c, atI x.cps.toList r = some c ∧ c ∈ x.cps.toList := by
  have hz : x.cps.toList[r.toNat]? = some x.cps.toList[r.toNat] := List.getElem?_eq_getElem (by omega)
  refine ⟨x.cps.toList[r.toNat]'(by omega), ?_, List.getElem_mem _⟩
  have := atI_nat hz
  rwa [Int.toNat_of_nonneg h0] at this
abbrev sp_word : Sp := spP (fun ds => ds = []) (fun _ d => ∃ l : List Nat, d = .str (S l) ∧ 1 ≤ l.length ∧ l.length ≤ 8 ∧ ∀ c ∈ l, c ∈ LET) 10
theorem ok_word (T : Txt K mg) (c__law_draw : Con P w K mg base "_law_draw" p__law_draw 3 sp_draw) : Con P w K mg base "_law_word" p__law_word 4 sp_word := by
  refine conP T.d__law_word sc__law_word (fun ds h => ?_) (fun f cdv A outer s H E hr => ⟨_, (pss_cons (ps_set (i := 1) sc__law_word.nd rfl (.inl rfl) (pe_op op_addA pe_int (pe_con c__law_draw (hr.mono (by decide)) (by rfl) (pa_cons (pv 0) (pa_cons (pe_ifExp (pt_cmpR (op_eqA hr.units) (pe_con c__law_draw (hr.mono (by decide)) (by rfl) (pa_cons (pv 0) (pa_cons pe_int pa_nil))) pe_int (nomark _)) pe_int pe_int) pa_nil)))))
      (pss_one (ps_ret (pe_join pe_str (pe_lc (own := [("_law_turn", 2)]) rfl sc__law_word.nd (pi_range1 (by rfl) T.n_range (pa_cons (pv 1) pa_nil)) (blkOk_by (own := [("_law_turn", 2)]) (N := n__law_word) (sc := defScope s__law_word) (by decide +kernel)) (fun _ _ _ _ _ => (pg_name (i := 2) sc__law_word.nd rfl (Or.inl rfl))) (fun _ _ _ _ _ => pts_nil) (fun _ _ _ _ _ => (pe_ix (show IxR _ (rIx K) from ix_seq) pe_str (pe_con c__law_draw (hr.mono (by decide)) (by rfl) (pa_cons (pv 0) (pa_cons pe_int pa_nil))) (fun _ _ => rfl)))))))), fun ds p n h hn => ?_⟩)
  · subst h
    rfl
  · subst h
    refine dS_seq (dS_set (dE_op2 (dE_int (dE_callP (i := 0) rfl (dA_cons (dE.imp (Q := fun d G1 => ∃ q : Int, d = .int q ∧ 1 ≤ q ∧ q ≤ 8 ∧ G1 = [.pur p (n + 1), .any, .any]) (dE_if ?_) fun d G1 ⟨q, e1, h1, h2, e2⟩ => ?_))))))
    · one_place
      refine ⟨n, rfl, ⟨3, rfl, by decide, by decide⟩, by omega, fun d ⟨m, r, e1, e2, r1, r2⟩ => ?_⟩
      subst e2
      one_place
      refine ⟨_, od_eqI, _, rfl, fun _ => ?_, fun _ => ?_⟩
      · refine dE_int ⟨8, rfl, by decide, by decide, rfl⟩
      · refine dE_int ⟨3, rfl, by decide, by decide, rfl⟩
    subst e1 e2
    one_place
    refine ⟨n + 1, rfl, ⟨q, rfl, by omega, by omega⟩, by omega, fun d ⟨m, r, e1, e2, r1, r2⟩ => ?_⟩
    cases e1
    subst e2
    refine ⟨_, od_add, ?_⟩
    one_place
    refine dE_join (dE_str ⟨_, rfl, dE_lc (dL_gen (dI_rng1 (dA_cons (dE_varE ⟨_, rfl, dA_nil ⟨_, rfl, by omega, by omega, n + 2, 1, fun _ y => ∃ c, y = .str ⟨#[c]⟩ ∧ c ∈ LET, rfl, by decide, ?_, fun j d hd => ?_, fun es hl he => ?_⟩⟩))))⟩)
    · rw [nats_length]; omega
    · have hj := (List.getElem?_eq_some_iff.mp hd).1
      rw [nats_length] at hj
      one_place
      refine ⟨n + 2 + 1 * j, rfl, ⟨26, rfl, by decide, by decide⟩, by omega, fun d ⟨m, r, e1, e2, r1, r2⟩ => ?_⟩
      cases e1
      subst e2
      obtain ⟨c, hc, hm⟩ := at_str (x := k_LETTERS) r1 r2
      exact ⟨r, _, rfl, .inr (.inr ⟨_, c, rfl, by rw [sizeLine_eq]; decide, hc, rfl⟩), ⟨c, rfl, hm⟩, rfl⟩
    · obtain ⟨cs, e1, e2, e3⟩ := chars he
      rw [nats_length] at hl
      refine ⟨_, by rw [e1], ?_, ?_⟩
      · rw [chars_sum, List.length_map]
        have : (Str.ofString "").length = 0 := rfl
        rw [this]
        omega
      · rw [join_chars]
        refine ⟨⟨cs, rfl, by omega, by omega, e3⟩, _, ?_, rfl⟩
        rw [nats_length]
        omega
/-! ### purses; the law's own kinds -/
theorem bits_big : CPowW (10 ^ 60) 8 := ⟨by decide, by decide +kernel⟩
theorem cut_ints (ns : List Int) (lo hi : Option Int) : ∃ ms : List Int, cutD (ns.map D.int) lo hi = ms.map D.int := by
  unfold cutD
  rw [← List.map_drop, ← List.map_take]
  exact ⟨_, rfl⟩
abbrev preP (K : PySem.W.Frag) : List D → Prop := fun ds => ∃ (d : D) (ns : List Int) (t : Int), ds = [d, .int t] ∧ ScrD K d ns ∧ 0 ≤ t ∧ t < 1000
abbrev sp_purse (K : PySem.W.Frag) : Sp := spL (preP K) fun _ es => newPur es
theorem ok_purse (T : Txt K mg) : Con P w K mg base "_law_purse" p__law_purse 2 (sp_purse K) := by
  refine conL T.d__law_purse sc__law_purse (fun ds h => ?_) (fun f cdv A outer s H E hr => ⟨_, (pss_cons (ps_set (i := 2) sc__law_purse.nd rfl (.inl rfl) (pe_callB (cr_sum rfl) (by rfl) T.n_sum (by decide +kernel) (pa_cons (pe_slice sl_A (pv 0) (po_some (pv 1)) (po_some (pe_op op_addA (pv 1) pe_int))) pa_nil)))
      (pss_one (ps_ret (pe_lst (pa_cons (pe_op op_modA (pe_callTy call_intA (by rfl) T.n_int (by decide +kernel) (pa_cons (pe_callB (call_maxA rfl) (by rfl) T.n_max (by decide +kernel) (pa_cons (pe_op op_subA (pv 2) (pe_op op_powA pe_int pe_int)) (pa_cons pe_int pa_nil))) pa_nil)) (pe_op op_powA (pe_op op_powA pe_int pe_int) pe_int)) (pa_cons (pe_op op_modA (pe_callTy call_intA (by rfl) T.n_int (by decide +kernel) (pa_cons (pv 2) pa_nil)) pe_int) (pa_cons pe_int (pa_cons (pv 1) pa_nil)))))))), fun ds h => ?_⟩)
  · obtain ⟨d, ns, t, rfl, _⟩ := h
    rfl
  · obtain ⟨d, ns, t, rfl, hd, h1, h2⟩ := h
    refine dSN_seq (dS_set (dE_cb (dA_cons (dE_L (dL_slScr (dE_varE ⟨_, rfl, dO_some (dE_varE ⟨_, rfl, t, rfl, dO_some (dE_op2 (dE_varE ⟨_, rfl, dE_int ⟨_, od_add, t + 1, rfl, ns, hd, ?_⟩⟩))⟩)⟩))))))
    obtain ⟨ms, hms⟩ := cut_ints ns (some t) (some (t + 1))
    rw [hms]
    refine dA_nil ⟨_, ca_sum, ?_⟩
    refine dSN_retL (dL_lst ?_)
    one_place
    refine ⟨_, od_pow ⟨by decide, by decide +kernel⟩, _, od_sub, ?_⟩
    one_place
    refine ⟨_, ca_max, ?_⟩
    one_place
    refine ⟨_, ca_int, ?_⟩
    one_place
    refine ⟨_, od_pow ⟨by decide, by decide +kernel⟩, ?_⟩
    one_place
    refine ⟨_, od_pow bits_big, _, od_mod (by decide +kernel), ?_⟩
    one_place
    refine ⟨_, ca_int, ?_⟩
    one_place
    refine ⟨_, od_mod (by decide +kernel), ?_⟩
    one_place
    refine ⟨(by decide : 4 ≤ 1000), _, _, t, rfl, Int.emod_nonneg _ (by decide +kernel), ?_, Int.emod_nonneg _ (by decide +kernel), ?_, h1, h2⟩
    · refine Int.lt_of_lt_of_le (Int.emod_lt_of_pos _ (by decide +kernel)) ?_
      decide +kernel
    · refine Int.lt_of_lt_of_le (Int.emod_lt_of_pos _ (by decide +kernel)) ?_
      decide +kernel
abbrev sp_purses (K : PySem.W.Frag) : Sp := spPs fun ds => ∃ (d : D) (ns : List Int) (m : Int), ds = [d, .int m] ∧ ScrD K d ns ∧ m ≤ 100
theorem ok_purses (T : Txt K mg) (c__law_purse : Con P w K mg base "_law_purse" p__law_purse 2 (sp_purse K)) : Con P w K mg base "_law_purses" p__law_purses 3 (sp_purses K) := by
  refine conPs T.d__law_purses sc__law_purses (fun ds h => ?_) (fun f cdv A outer s H E hr => ⟨_, (pss_one (ps_ret (pe_lc (own := [("_law_at", 2)]) rfl sc__law_purses.nd (pi_range1 (by rfl) T.n_range (pa_cons (pe_callB (call_maxA rfl) (by rfl) T.n_max (by decide +kernel) (pa_cons pe_int (pa_cons (pe_callB (call_minA rfl) (by rfl) T.n_min (by decide +kernel) (pa_cons (pv 1) (pa_cons (pe_callB call_lenA (by rfl) T.n_len (by decide +kernel) (pa_cons (pv 0) pa_nil)) pa_nil))) pa_nil))) pa_nil)) (blkOk_by (own := [("_law_at", 2)]) (N := n__law_purses) (sc := defScope s__law_purses) (by decide +kernel)) (fun _ _ _ _ _ => (pg_name (i := 2) sc__law_purses.nd rfl (Or.inl rfl))) (fun _ _ _ _ _ => pts_nil) (fun _ _ _ _ _ => (pe_con c__law_purse (hr.mono (by decide)) (by rfl) (pa_cons (pv 0) (pa_cons (pv 2) pa_nil))))))), fun ds h β A σ H Q hZ en q => ?_⟩)
  · obtain ⟨d, ns, t, rfl, _⟩ := h
    rfl
  · obtain ⟨d, ns, m, rfl, hd, h1⟩ := h
    refine raw_purses (E := E0) (ex := fun _ _ => False) en (fun _ _ _ _ _ z => z.elim) rfl (by decide) (show 2 < 3 by decide) rfl ?_ (fun j hj => ⟨d, ns, (j : Int), rfl, hd, by omega, by omega⟩) q hZ
    one_place
    refine ⟨_, ca_lenScr hd, ?_⟩
    one_place
    refine ⟨_, ca_min, ?_⟩
    one_place
    refine ⟨_, ca_max, ?_⟩
    one_place
    refine ⟨Int.toNat (if (if (ns.length : Int) < m then (ns.length : Int) else m) > 1 then (if (ns.length : Int) < m then (ns.length : Int) else m) else 1), ?_, ?_⟩
    · rw [Int.toNat_of_nonneg (by split <;> omega)]
    · split <;> (split <;> omega)
end
end K1
namespace K1
open PySem L2 Kr
local macro_rules | `(tactic| one_item) => `(tactic| first
  | (with_reducible refine dS_seq ?_) | (with_reducible refine dS_ret ?_) | (with_reducible refine dS_if ?_) | (with_reducible refine dS_next ?_) | (with_reducible refine dS_nextE ?_) | (with_reducible refine dS_brkE ?_) | (with_reducible refine dS_ctE ?_)
  | (with_reducible refine dT_B ?_) | (with_reducible refine dT_test ?_) | (with_reducible refine dT_and ?_) | (with_reducible refine dT_or ?_) | (with_reducible refine dT_not ?_)
  | (with_reducible refine dE_and ?_) | (with_reducible refine dE_or ?_) | (with_reducible refine dE_not ?_) | (with_reducible refine dE_if ?_)
  | (with_reducible refine dE_int ?_) | (with_reducible refine dE_str ?_) | (with_reducible refine dE_bl ?_) | (with_reducible refine dE_non ?_)
  | ((with_reducible refine dE_varE ?_); refine ⟨_, rfl, ?_⟩) | ((with_reducible refine dE_ownE ?_); refine ⟨_, rfl, ?_⟩)
  | (with_reducible refine dE_ix ?_) | (with_reducible refine dE_op2 ?_) | (with_reducible refine dE_chain ?_) | (with_reducible refine dE_un ?_) | (with_reducible refine dA_cons ?_) | (with_reducible refine dA_nil ?_) | (with_reducible refine dE_callF ?_) | (with_reducible refine dE_tup ?_)
  | (refine ⟨fun (_ : true = true) => ?_, fun z => Bool.noConfusion z⟩) | (refine ⟨fun z => Bool.noConfusion z, fun (_ : false = false) => ?_⟩)
  | (with_reducible refine dE_callP (i := 0) rfl ?_)
  | (with_reducible refine dE_isStr ?_) | (with_reducible refine dE_isInt ?_) | (with_reducible refine dE_isBool ?_) | (with_reducible refine dE_isList ?_) | (with_reducible refine dE_isTup ?_) | (with_reducible refine dE_isDict ?_) | (with_reducible refine dE_cb ?_) | (with_reducible refine dE_lc ?_) | (with_reducible refine dE_lstF ?_) | (with_reducible refine dI_list ?_) | (with_reducible refine dI_tup ?_) | (with_reducible refine dI_str ?_) | (with_reducible refine dI_rng1 ?_) | (with_reducible refine dI_rng2 ?_) | (with_reducible refine dS_set ?_) | (with_reducible refine dS_augI ?_) | (with_reducible refine dS_brk ?_) | (with_reducible refine dS_ct ?_) | (with_reducible refine dO_none ?_) | (with_reducible refine dO_some ?_))
local macro_rules | `(tactic| one_place) => `(tactic| (repeat' one_item))
section
variable {P : Program} {w : World} {K : PySem.W.Frag} {mg : Str → Option Value} {base : Heap}
/-- one error of each class -/
def errs (K : PySem.W.Frag) (d : D) : List D := (List.range 33).map fun i => .err (cl K i) d
section
variable {E : XK} {ex : Addr → D → Prop} {f : Bool} {G : List Sl} {Q : D → List Sl → Prop} {QA : List D → List Sl → Prop} {d : D} {C : Addr} {P0 : Po} {tr : TA} {ts : TS}
theorem mkE_v (h : G[0]? = some (.imm d)) (q : Q (.err C d) G) : dE E ex f (tMkE C (tCons (tVar 0) tNil)) G Q := dE_mkE (dA_cons (dE_var h (dA_nil ⟨d, rfl, q⟩)))
theorem first_set {i : Nat} (h : dA E ex true tr G fun ds G1 => ds.length ≤ 1000 ∧ dS E ex ts (G1.set i (.imm (.lst ds))) P0) : dS E ex (tSeq (tAsg (tLst tr) (gName i)) ts) G P0 := dS_seq (dS_set (dE_lst h))
theorem more_set {i : Nat} {l : List D} (hi : G[i]? = some (.imm (.lst l))) (h : dA E ex true tr G fun ds G1 => ds.length ≤ 1000 ∧ l.length + ds.length ≤ 1000000 ∧ dS E ex ts (G1.set i (.imm (.lst (l ++ ds)))) P0) : dS E ex (tSeq (tAsg (tOp (rAddA K) (tVar i) (tLst tr)) (gName i)) ts) G P0 :=
  dS_seq (dS_set (dE_L (dL_cat (dE_var hi (dE_lst (h.imp fun ds G1 ⟨h1, h2, h3⟩ => ⟨h1, l, ds, rfl, rfl, h2, h3⟩))))))
end
abbrev g_first (K : PySem.W.Frag) : List D → D := fun ds => match ds with
  | [d] => .lst (errs K d)
  | _ => .non
abbrev sp_first (K : PySem.W.Frag) : Sp := spF (fun ds => ∃ d, ds = [d]) (g_first K)
theorem ok_first (T : Txt K mg) (TC : Cl P K mg) : Con P w K mg base "_law_first" p__law_first 1 (sp_first K) := by
  refine conF T.d__law_first sc__law_first (fun ds h => ?_) (fun f cdv A outer s H E hr => ⟨_, (pss_cons (ps_set (i := 1) sc__law_first.nd rfl (.inl rfl) (pe_lst (pa_cons (pe_mkE (show PySem.Kex.ValTxt P K mg "InvalidToken" (cl K 0) (Kh.iAd K "InvalidToken") from TC.va 0 (by decide)) hr (pa_cons (pv 0) pa_nil) (by rfl)) (pa_cons (pe_mkE (show PySem.Kex.ValTxt P K mg "InvalidText" (cl K 1) (Kh.iAd K "InvalidText") from TC.va 1 (by decide)) hr (pa_cons (pv 0) pa_nil) (by rfl)) (pa_cons (pe_mkE (show PySem.Kex.ValTxt P K mg "InvalidForm" (cl K 2) (Kh.iAd K "InvalidForm") from TC.va 2 (by decide)) hr (pa_cons (pv 0) pa_nil) (by rfl)) (pa_cons (pe_mkE (show PySem.Kex.ValTxt P K mg "InvalidForms" (cl K 3) (Kh.iAd K "InvalidForms") from TC.va 3 (by decide)) hr (pa_cons (pv 0) pa_nil) (by rfl)) pa_nil))))))
      (pss_cons (ps_set (i := 1) sc__law_first.nd rfl (.inl rfl) (pe_op op_addA (pv 1) (pe_lst (pa_cons (pe_mkE (show PySem.Kex.ValTxt P K mg "InvalidWords" (cl K 4) (Kh.iAd K "InvalidWords") from TC.va 4 (by decide)) hr (pa_cons (pv 0) pa_nil) (by rfl)) (pa_cons (pe_mkE (show PySem.Kex.ValTxt P K mg "Unsound" (cl K 5) (Kh.iAd K "Unsound") from TC.va 5 (by decide)) hr (pa_cons (pv 0) pa_nil) (by rfl)) (pa_cons (pe_mkE (show PySem.Kex.ValTxt P K mg "InvalidEdition" (cl K 6) (Kh.iAd K "InvalidEdition") from TC.va 6 (by decide)) hr (pa_cons (pv 0) pa_nil) (by rfl)) (pa_cons (pe_mkE (show PySem.Kex.ValTxt P K mg "InvalidEditions" (cl K 7) (Kh.iAd K "InvalidEditions") from TC.va 7 (by decide)) hr (pa_cons (pv 0) pa_nil) (by rfl)) pa_nil)))))))
      (pss_cons (ps_set (i := 1) sc__law_first.nd rfl (.inl rfl) (pe_op op_addA (pv 1) (pe_lst (pa_cons (pe_mkE (show PySem.Kex.ValTxt P K mg "InvalidChange" (cl K 8) (Kh.iAd K "InvalidChange") from TC.va 8 (by decide)) hr (pa_cons (pv 0) pa_nil) (by rfl)) (pa_cons (pe_mkE (show PySem.Kex.ValTxt P K mg "InvalidChanges" (cl K 9) (Kh.iAd K "InvalidChanges") from TC.va 9 (by decide)) hr (pa_cons (pv 0) pa_nil) (by rfl)) (pa_cons (pe_mkE (show PySem.Kex.ValTxt P K mg "InvalidPattern" (cl K 10) (Kh.iAd K "InvalidPattern") from TC.va 10 (by decide)) hr (pa_cons (pv 0) pa_nil) (by rfl)) (pa_cons (pe_mkE (show PySem.Kex.ValTxt P K mg "Fault" (cl K 11) (Kh.iAd K "Fault") from TC.va 11 (by decide)) hr (pa_cons (pv 0) pa_nil) (by rfl)) pa_nil)))))))
      (pss_cons (ps_set (i := 1) sc__law_first.nd rfl (.inl rfl) (pe_op op_addA (pv 1) (pe_lst (pa_cons (pe_mkE (show PySem.Kex.ValTxt P K mg "InvalidKey" (cl K 12) (Kh.iAd K "InvalidKey") from TC.va 12 (by decide)) hr (pa_cons (pv 0) pa_nil) (by rfl)) (pa_cons (pe_mkE (show PySem.Kex.ValTxt P K mg "InvalidTree" (cl K 13) (Kh.iAd K "InvalidTree") from TC.va 13 (by decide)) hr (pa_cons (pv 0) pa_nil) (by rfl)) (pa_cons (pe_mkE (show PySem.Kex.ValTxt P K mg "UnknownForm" (cl K 14) (Kh.iAd K "UnknownForm") from TC.va 14 (by decide)) hr (pa_cons (pv 0) pa_nil) (by rfl)) (pa_cons (pe_mkE (show PySem.Kex.ValTxt P K mg "InvalidPath" (cl K 15) (Kh.iAd K "InvalidPath") from TC.va 15 (by decide)) hr (pa_cons (pv 0) pa_nil) (by rfl)) pa_nil)))))))
      (pss_cons (ps_set (i := 1) sc__law_first.nd rfl (.inl rfl) (pe_op op_addA (pv 1) (pe_lst (pa_cons (pe_mkE (show PySem.Kex.ValTxt P K mg "InvalidSpot" (cl K 16) (Kh.iAd K "InvalidSpot") from TC.va 16 (by decide)) hr (pa_cons (pv 0) pa_nil) (by rfl)) (pa_cons (pe_mkE (show PySem.Kex.ValTxt P K mg "InvalidMarks" (cl K 17) (Kh.iAd K "InvalidMarks") from TC.va 17 (by decide)) hr (pa_cons (pv 0) pa_nil) (by rfl)) (pa_cons (pe_mkE (show PySem.Kex.ValTxt P K mg "InvalidWay" (cl K 18) (Kh.iAd K "InvalidWay") from TC.va 18 (by decide)) hr (pa_cons (pv 0) pa_nil) (by rfl)) (pa_cons (pe_mkE (show PySem.Kex.ValTxt P K mg "InvalidTable" (cl K 19) (Kh.iAd K "InvalidTable") from TC.va 19 (by decide)) hr (pa_cons (pv 0) pa_nil) (by rfl)) pa_nil)))))))
      (pss_cons (ps_set (i := 1) sc__law_first.nd rfl (.inl rfl) (pe_op op_addA (pv 1) (pe_lst (pa_cons (pe_mkE (show PySem.Kex.ValTxt P K mg "InvalidWorkshop" (cl K 20) (Kh.iAd K "InvalidWorkshop") from TC.va 20 (by decide)) hr (pa_cons (pv 0) pa_nil) (by rfl)) (pa_cons (pe_mkE (show PySem.Kex.ValTxt P K mg "InvalidLog" (cl K 21) (Kh.iAd K "InvalidLog") from TC.va 21 (by decide)) hr (pa_cons (pv 0) pa_nil) (by rfl)) (pa_cons (pe_mkE (show PySem.Kex.ValTxt P K mg "InvalidScript" (cl K 22) (Kh.iAd K "InvalidScript") from TC.va 22 (by decide)) hr (pa_cons (pv 0) pa_nil) (by rfl)) (pa_cons (pe_mkE (show PySem.Kex.ValTxt P K mg "InvalidCount" (cl K 23) (Kh.iAd K "InvalidCount") from TC.va 23 (by decide)) hr (pa_cons (pv 0) pa_nil) (by rfl)) pa_nil)))))))
      (pss_cons (ps_set (i := 1) sc__law_first.nd rfl (.inl rfl) (pe_op op_addA (pv 1) (pe_lst (pa_cons (pe_mkE (show PySem.Kex.ValTxt P K mg "Refused" (cl K 24) (Kh.iAd K "Refused") from TC.va 24 (by decide)) hr (pa_cons (pv 0) pa_nil) (by rfl)) (pa_cons (pe_mkE (show PySem.Kex.ValTxt P K mg "InvalidEdit" (cl K 25) (Kh.iAd K "InvalidEdit") from TC.va 25 (by decide)) hr (pa_cons (pv 0) pa_nil) (by rfl)) (pa_cons (pe_mkE (show PySem.Kex.ValTxt P K mg "UnknownPlace" (cl K 26) (Kh.iAd K "UnknownPlace") from TC.va 26 (by decide)) hr (pa_cons (pv 0) pa_nil) (by rfl)) (pa_cons (pe_mkE (show PySem.Kex.ValTxt P K mg "InvalidReason" (cl K 27) (Kh.iAd K "InvalidReason") from TC.va 27 (by decide)) hr (pa_cons (pv 0) pa_nil) (by rfl)) pa_nil)))))))
      (pss_cons (ps_set (i := 1) sc__law_first.nd rfl (.inl rfl) (pe_op op_addA (pv 1) (pe_lst (pa_cons (pe_mkE (show PySem.Kex.ValTxt P K mg "InvalidStack" (cl K 28) (Kh.iAd K "InvalidStack") from TC.va 28 (by decide)) hr (pa_cons (pv 0) pa_nil) (by rfl)) (pa_cons (pe_mkE (show PySem.Kex.ValTxt P K mg "InvalidRow" (cl K 29) (Kh.iAd K "InvalidRow") from TC.va 29 (by decide)) hr (pa_cons (pv 0) pa_nil) (by rfl)) (pa_cons (pe_mkE (show PySem.Kex.ValTxt P K mg "InvalidLot" (cl K 30) (Kh.iAd K "InvalidLot") from TC.va 30 (by decide)) hr (pa_cons (pv 0) pa_nil) (by rfl)) (pa_cons (pe_mkE (show PySem.Kex.ValTxt P K mg "InvalidSurroundings" (cl K 31) (Kh.iAd K "InvalidSurroundings") from TC.va 31 (by decide)) hr (pa_cons (pv 0) pa_nil) (by rfl)) pa_nil)))))))
      (pss_cons (ps_set (i := 1) sc__law_first.nd rfl (.inl rfl) (pe_op op_addA (pv 1) (pe_lst (pa_cons (pe_mkE (show PySem.Kex.ValTxt P K mg "InvalidLook" (cl K 32) (Kh.iAd K "InvalidLook") from TC.va 32 (by decide)) hr (pa_cons (pv 0) pa_nil) (by rfl)) pa_nil))))
      (pss_one (ps_ret (pv 1)))))))))))), fun ds h => ?_⟩)
  · obtain ⟨d, rfl⟩ := h
    rfl
  · obtain ⟨d, rfl⟩ := h
    refine first_set ?_
    repeat refine dA_cons (mkE_v rfl ?_)
    refine dA_nil ⟨Nat.le_of_ble_eq_true rfl, ?_⟩
    repeat
      refine more_set rfl ?_
      repeat refine dA_cons (mkE_v rfl ?_)
      refine dA_nil ⟨Nat.le_of_ble_eq_true rfl, Nat.le_of_ble_eq_true rfl, ?_⟩
    exact dS_ret (dE_var rfl rfl)
theorem ok_called (T : Txt K mg) (TC : Cl P K mg) : Con P w K mg base "_law_called" p__law_called 1 (sp_first K) := by
  refine conF T.d__law_called sc__law_called (fun ds h => ?_) (fun f cdv A outer s H E hr => ⟨_, (pss_cons (ps_set (i := 1) sc__law_called.nd rfl (.inl rfl) (pe_lst (pa_cons (pe_mkEk (show PySem.Kex.ValTxt P K mg "InvalidToken" (cl K 0) (Kh.iAd K "InvalidToken") from TC.va 0 (by decide)) hr (pk_cons (pv 0) pk_nil) (by rfl)) (pa_cons (pe_mkEk (show PySem.Kex.ValTxt P K mg "InvalidText" (cl K 1) (Kh.iAd K "InvalidText") from TC.va 1 (by decide)) hr (pk_cons (pv 0) pk_nil) (by rfl)) (pa_cons (pe_mkEk (show PySem.Kex.ValTxt P K mg "InvalidForm" (cl K 2) (Kh.iAd K "InvalidForm") from TC.va 2 (by decide)) hr (pk_cons (pv 0) pk_nil) (by rfl)) pa_nil)))))
      (pss_cons (ps_set (i := 1) sc__law_called.nd rfl (.inl rfl) (pe_op op_addA (pv 1) (pe_lst (pa_cons (pe_mkEk (show PySem.Kex.ValTxt P K mg "InvalidForms" (cl K 3) (Kh.iAd K "InvalidForms") from TC.va 3 (by decide)) hr (pk_cons (pv 0) pk_nil) (by rfl)) (pa_cons (pe_mkEk (show PySem.Kex.ValTxt P K mg "InvalidWords" (cl K 4) (Kh.iAd K "InvalidWords") from TC.va 4 (by decide)) hr (pk_cons (pv 0) pk_nil) (by rfl)) (pa_cons (pe_mkEk (show PySem.Kex.ValTxt P K mg "Unsound" (cl K 5) (Kh.iAd K "Unsound") from TC.va 5 (by decide)) hr (pk_cons (pv 0) pk_nil) (by rfl)) pa_nil))))))
      (pss_cons (ps_set (i := 1) sc__law_called.nd rfl (.inl rfl) (pe_op op_addA (pv 1) (pe_lst (pa_cons (pe_mkEk (show PySem.Kex.ValTxt P K mg "InvalidEdition" (cl K 6) (Kh.iAd K "InvalidEdition") from TC.va 6 (by decide)) hr (pk_cons (pv 0) pk_nil) (by rfl)) (pa_cons (pe_mkEk (show PySem.Kex.ValTxt P K mg "InvalidEditions" (cl K 7) (Kh.iAd K "InvalidEditions") from TC.va 7 (by decide)) hr (pk_cons (pv 0) pk_nil) (by rfl)) (pa_cons (pe_mkEk (show PySem.Kex.ValTxt P K mg "InvalidChange" (cl K 8) (Kh.iAd K "InvalidChange") from TC.va 8 (by decide)) hr (pk_cons (pv 0) pk_nil) (by rfl)) pa_nil))))))
      (pss_cons (ps_set (i := 1) sc__law_called.nd rfl (.inl rfl) (pe_op op_addA (pv 1) (pe_lst (pa_cons (pe_mkEk (show PySem.Kex.ValTxt P K mg "InvalidChanges" (cl K 9) (Kh.iAd K "InvalidChanges") from TC.va 9 (by decide)) hr (pk_cons (pv 0) pk_nil) (by rfl)) (pa_cons (pe_mkEk (show PySem.Kex.ValTxt P K mg "InvalidPattern" (cl K 10) (Kh.iAd K "InvalidPattern") from TC.va 10 (by decide)) hr (pk_cons (pv 0) pk_nil) (by rfl)) (pa_cons (pe_mkEk (show PySem.Kex.ValTxt P K mg "Fault" (cl K 11) (Kh.iAd K "Fault") from TC.va 11 (by decide)) hr (pk_cons (pv 0) pk_nil) (by rfl)) pa_nil))))))
      (pss_cons (ps_set (i := 1) sc__law_called.nd rfl (.inl rfl) (pe_op op_addA (pv 1) (pe_lst (pa_cons (pe_mkEk (show PySem.Kex.ValTxt P K mg "InvalidKey" (cl K 12) (Kh.iAd K "InvalidKey") from TC.va 12 (by decide)) hr (pk_cons (pv 0) pk_nil) (by rfl)) (pa_cons (pe_mkEk (show PySem.Kex.ValTxt P K mg "InvalidTree" (cl K 13) (Kh.iAd K "InvalidTree") from TC.va 13 (by decide)) hr (pk_cons (pv 0) pk_nil) (by rfl)) (pa_cons (pe_mkEk (show PySem.Kex.ValTxt P K mg "UnknownForm" (cl K 14) (Kh.iAd K "UnknownForm") from TC.va 14 (by decide)) hr (pk_cons (pv 0) pk_nil) (by rfl)) pa_nil))))))
      (pss_cons (ps_set (i := 1) sc__law_called.nd rfl (.inl rfl) (pe_op op_addA (pv 1) (pe_lst (pa_cons (pe_mkEk (show PySem.Kex.ValTxt P K mg "InvalidPath" (cl K 15) (Kh.iAd K "InvalidPath") from TC.va 15 (by decide)) hr (pk_cons (pv 0) pk_nil) (by rfl)) (pa_cons (pe_mkEk (show PySem.Kex.ValTxt P K mg "InvalidSpot" (cl K 16) (Kh.iAd K "InvalidSpot") from TC.va 16 (by decide)) hr (pk_cons (pv 0) pk_nil) (by rfl)) (pa_cons (pe_mkEk (show PySem.Kex.ValTxt P K mg "InvalidMarks" (cl K 17) (Kh.iAd K "InvalidMarks") from TC.va 17 (by decide)) hr (pk_cons (pv 0) pk_nil) (by rfl)) pa_nil))))))
      (pss_cons (ps_set (i := 1) sc__law_called.nd rfl (.inl rfl) (pe_op op_addA (pv 1) (pe_lst (pa_cons (pe_mkEk (show PySem.Kex.ValTxt P K mg "InvalidWay" (cl K 18) (Kh.iAd K "InvalidWay") from TC.va 18 (by decide)) hr (pk_cons (pv 0) pk_nil) (by rfl)) (pa_cons (pe_mkEk (show PySem.Kex.ValTxt P K mg "InvalidTable" (cl K 19) (Kh.iAd K "InvalidTable") from TC.va 19 (by decide)) hr (pk_cons (pv 0) pk_nil) (by rfl)) (pa_cons (pe_mkEk (show PySem.Kex.ValTxt P K mg "InvalidWorkshop" (cl K 20) (Kh.iAd K "InvalidWorkshop") from TC.va 20 (by decide)) hr (pk_cons (pv 0) pk_nil) (by rfl)) pa_nil))))))
      (pss_cons (ps_set (i := 1) sc__law_called.nd rfl (.inl rfl) (pe_op op_addA (pv 1) (pe_lst (pa_cons (pe_mkEk (show PySem.Kex.ValTxt P K mg "InvalidLog" (cl K 21) (Kh.iAd K "InvalidLog") from TC.va 21 (by decide)) hr (pk_cons (pv 0) pk_nil) (by rfl)) (pa_cons (pe_mkEk (show PySem.Kex.ValTxt P K mg "InvalidScript" (cl K 22) (Kh.iAd K "InvalidScript") from TC.va 22 (by decide)) hr (pk_cons (pv 0) pk_nil) (by rfl)) (pa_cons (pe_mkEk (show PySem.Kex.ValTxt P K mg "InvalidCount" (cl K 23) (Kh.iAd K "InvalidCount") from TC.va 23 (by decide)) hr (pk_cons (pv 0) pk_nil) (by rfl)) pa_nil))))))
      (pss_cons (ps_set (i := 1) sc__law_called.nd rfl (.inl rfl) (pe_op op_addA (pv 1) (pe_lst (pa_cons (pe_mkEk (show PySem.Kex.ValTxt P K mg "Refused" (cl K 24) (Kh.iAd K "Refused") from TC.va 24 (by decide)) hr (pk_cons (pv 0) pk_nil) (by rfl)) (pa_cons (pe_mkEk (show PySem.Kex.ValTxt P K mg "InvalidEdit" (cl K 25) (Kh.iAd K "InvalidEdit") from TC.va 25 (by decide)) hr (pk_cons (pv 0) pk_nil) (by rfl)) (pa_cons (pe_mkEk (show PySem.Kex.ValTxt P K mg "UnknownPlace" (cl K 26) (Kh.iAd K "UnknownPlace") from TC.va 26 (by decide)) hr (pk_cons (pv 0) pk_nil) (by rfl)) pa_nil))))))
      (pss_cons (ps_set (i := 1) sc__law_called.nd rfl (.inl rfl) (pe_op op_addA (pv 1) (pe_lst (pa_cons (pe_mkEk (show PySem.Kex.ValTxt P K mg "InvalidReason" (cl K 27) (Kh.iAd K "InvalidReason") from TC.va 27 (by decide)) hr (pk_cons (pv 0) pk_nil) (by rfl)) (pa_cons (pe_mkEk (show PySem.Kex.ValTxt P K mg "InvalidStack" (cl K 28) (Kh.iAd K "InvalidStack") from TC.va 28 (by decide)) hr (pk_cons (pv 0) pk_nil) (by rfl)) (pa_cons (pe_mkEk (show PySem.Kex.ValTxt P K mg "InvalidRow" (cl K 29) (Kh.iAd K "InvalidRow") from TC.va 29 (by decide)) hr (pk_cons (pv 0) pk_nil) (by rfl)) pa_nil))))))
      (pss_cons (ps_set (i := 1) sc__law_called.nd rfl (.inl rfl) (pe_op op_addA (pv 1) (pe_lst (pa_cons (pe_mkEk (show PySem.Kex.ValTxt P K mg "InvalidLot" (cl K 30) (Kh.iAd K "InvalidLot") from TC.va 30 (by decide)) hr (pk_cons (pv 0) pk_nil) (by rfl)) (pa_cons (pe_mkEk (show PySem.Kex.ValTxt P K mg "InvalidSurroundings" (cl K 31) (Kh.iAd K "InvalidSurroundings") from TC.va 31 (by decide)) hr (pk_cons (pv 0) pk_nil) (by rfl)) (pa_cons (pe_mkEk (show PySem.Kex.ValTxt P K mg "InvalidLook" (cl K 32) (Kh.iAd K "InvalidLook") from TC.va 32 (by decide)) hr (pk_cons (pv 0) pk_nil) (by rfl)) pa_nil))))))
      (pss_one (ps_ret (pv 1)))))))))))))), fun ds h => ?_⟩)
  · obtain ⟨d, rfl⟩ := h
    rfl
  · obtain ⟨d, rfl⟩ := h
    refine first_set ?_
    repeat refine dA_cons (mkE_v rfl ?_)
    refine dA_nil ⟨Nat.le_of_ble_eq_true rfl, ?_⟩
    repeat
      refine more_set rfl ?_
      repeat refine dA_cons (mkE_v rfl ?_)
      refine dA_nil ⟨Nat.le_of_ble_eq_true rfl, Nat.le_of_ble_eq_true rfl, ?_⟩
    exact dS_ret (dE_var rfl rfl)
abbrev sp_bare (K : PySem.W.Frag) : Sp := spF (fun ds => ds = []) fun _ => .lst (errs K .non)
theorem ok_bare (T : Txt K mg) (TC : Cl P K mg) : Con P w K mg base "_law_bare" p__law_bare 1 (sp_bare K) := by
  refine conF T.d__law_bare sc__law_bare (fun ds h => ?_) (fun f cdv A outer s H E hr => ⟨_, (pss_cons (ps_set (i := 0) sc__law_bare.nd rfl (.inl rfl) (pe_lst (pa_cons (pe_mkE0 (show PySem.Kex.ValTxt P K mg "InvalidToken" (cl K 0) (Kh.iAd K "InvalidToken") from TC.va 0 (by decide)) hr (by rfl)) (pa_cons (pe_mkE0 (show PySem.Kex.ValTxt P K mg "InvalidText" (cl K 1) (Kh.iAd K "InvalidText") from TC.va 1 (by decide)) hr (by rfl)) (pa_cons (pe_mkE0 (show PySem.Kex.ValTxt P K mg "InvalidForm" (cl K 2) (Kh.iAd K "InvalidForm") from TC.va 2 (by decide)) hr (by rfl)) (pa_cons (pe_mkE0 (show PySem.Kex.ValTxt P K mg "InvalidForms" (cl K 3) (Kh.iAd K "InvalidForms") from TC.va 3 (by decide)) hr (by rfl)) (pa_cons (pe_mkE0 (show PySem.Kex.ValTxt P K mg "InvalidWords" (cl K 4) (Kh.iAd K "InvalidWords") from TC.va 4 (by decide)) hr (by rfl)) (pa_cons (pe_mkE0 (show PySem.Kex.ValTxt P K mg "Unsound" (cl K 5) (Kh.iAd K "Unsound") from TC.va 5 (by decide)) hr (by rfl)) pa_nil))))))))
      (pss_cons (ps_set (i := 0) sc__law_bare.nd rfl (.inl rfl) (pe_op op_addA (pv 0) (pe_lst (pa_cons (pe_mkE0 (show PySem.Kex.ValTxt P K mg "InvalidEdition" (cl K 6) (Kh.iAd K "InvalidEdition") from TC.va 6 (by decide)) hr (by rfl)) (pa_cons (pe_mkE0 (show PySem.Kex.ValTxt P K mg "InvalidEditions" (cl K 7) (Kh.iAd K "InvalidEditions") from TC.va 7 (by decide)) hr (by rfl)) (pa_cons (pe_mkE0 (show PySem.Kex.ValTxt P K mg "InvalidChange" (cl K 8) (Kh.iAd K "InvalidChange") from TC.va 8 (by decide)) hr (by rfl)) (pa_cons (pe_mkE0 (show PySem.Kex.ValTxt P K mg "InvalidChanges" (cl K 9) (Kh.iAd K "InvalidChanges") from TC.va 9 (by decide)) hr (by rfl)) (pa_cons (pe_mkE0 (show PySem.Kex.ValTxt P K mg "InvalidPattern" (cl K 10) (Kh.iAd K "InvalidPattern") from TC.va 10 (by decide)) hr (by rfl)) pa_nil))))))))
      (pss_cons (ps_set (i := 0) sc__law_bare.nd rfl (.inl rfl) (pe_op op_addA (pv 0) (pe_lst (pa_cons (pe_mkE0 (show PySem.Kex.ValTxt P K mg "Fault" (cl K 11) (Kh.iAd K "Fault") from TC.va 11 (by decide)) hr (by rfl)) (pa_cons (pe_mkE0 (show PySem.Kex.ValTxt P K mg "InvalidKey" (cl K 12) (Kh.iAd K "InvalidKey") from TC.va 12 (by decide)) hr (by rfl)) (pa_cons (pe_mkE0 (show PySem.Kex.ValTxt P K mg "InvalidTree" (cl K 13) (Kh.iAd K "InvalidTree") from TC.va 13 (by decide)) hr (by rfl)) (pa_cons (pe_mkE0 (show PySem.Kex.ValTxt P K mg "UnknownForm" (cl K 14) (Kh.iAd K "UnknownForm") from TC.va 14 (by decide)) hr (by rfl)) (pa_cons (pe_mkE0 (show PySem.Kex.ValTxt P K mg "InvalidPath" (cl K 15) (Kh.iAd K "InvalidPath") from TC.va 15 (by decide)) hr (by rfl)) (pa_cons (pe_mkE0 (show PySem.Kex.ValTxt P K mg "InvalidSpot" (cl K 16) (Kh.iAd K "InvalidSpot") from TC.va 16 (by decide)) hr (by rfl)) pa_nil)))))))))
      (pss_cons (ps_set (i := 0) sc__law_bare.nd rfl (.inl rfl) (pe_op op_addA (pv 0) (pe_lst (pa_cons (pe_mkE0 (show PySem.Kex.ValTxt P K mg "InvalidMarks" (cl K 17) (Kh.iAd K "InvalidMarks") from TC.va 17 (by decide)) hr (by rfl)) (pa_cons (pe_mkE0 (show PySem.Kex.ValTxt P K mg "InvalidWay" (cl K 18) (Kh.iAd K "InvalidWay") from TC.va 18 (by decide)) hr (by rfl)) (pa_cons (pe_mkE0 (show PySem.Kex.ValTxt P K mg "InvalidTable" (cl K 19) (Kh.iAd K "InvalidTable") from TC.va 19 (by decide)) hr (by rfl)) (pa_cons (pe_mkE0 (show PySem.Kex.ValTxt P K mg "InvalidWorkshop" (cl K 20) (Kh.iAd K "InvalidWorkshop") from TC.va 20 (by decide)) hr (by rfl)) (pa_cons (pe_mkE0 (show PySem.Kex.ValTxt P K mg "InvalidLog" (cl K 21) (Kh.iAd K "InvalidLog") from TC.va 21 (by decide)) hr (by rfl)) pa_nil))))))))
      (pss_cons (ps_set (i := 0) sc__law_bare.nd rfl (.inl rfl) (pe_op op_addA (pv 0) (pe_lst (pa_cons (pe_mkE0 (show PySem.Kex.ValTxt P K mg "InvalidScript" (cl K 22) (Kh.iAd K "InvalidScript") from TC.va 22 (by decide)) hr (by rfl)) (pa_cons (pe_mkE0 (show PySem.Kex.ValTxt P K mg "InvalidCount" (cl K 23) (Kh.iAd K "InvalidCount") from TC.va 23 (by decide)) hr (by rfl)) (pa_cons (pe_mkE0 (show PySem.Kex.ValTxt P K mg "Refused" (cl K 24) (Kh.iAd K "Refused") from TC.va 24 (by decide)) hr (by rfl)) (pa_cons (pe_mkE0 (show PySem.Kex.ValTxt P K mg "InvalidEdit" (cl K 25) (Kh.iAd K "InvalidEdit") from TC.va 25 (by decide)) hr (by rfl)) (pa_cons (pe_mkE0 (show PySem.Kex.ValTxt P K mg "UnknownPlace" (cl K 26) (Kh.iAd K "UnknownPlace") from TC.va 26 (by decide)) hr (by rfl)) (pa_cons (pe_mkE0 (show PySem.Kex.ValTxt P K mg "InvalidReason" (cl K 27) (Kh.iAd K "InvalidReason") from TC.va 27 (by decide)) hr (by rfl)) pa_nil)))))))))
      (pss_cons (ps_set (i := 0) sc__law_bare.nd rfl (.inl rfl) (pe_op op_addA (pv 0) (pe_lst (pa_cons (pe_mkE0 (show PySem.Kex.ValTxt P K mg "InvalidStack" (cl K 28) (Kh.iAd K "InvalidStack") from TC.va 28 (by decide)) hr (by rfl)) (pa_cons (pe_mkE0 (show PySem.Kex.ValTxt P K mg "InvalidRow" (cl K 29) (Kh.iAd K "InvalidRow") from TC.va 29 (by decide)) hr (by rfl)) (pa_cons (pe_mkE0 (show PySem.Kex.ValTxt P K mg "InvalidLot" (cl K 30) (Kh.iAd K "InvalidLot") from TC.va 30 (by decide)) hr (by rfl)) (pa_cons (pe_mkE0 (show PySem.Kex.ValTxt P K mg "InvalidSurroundings" (cl K 31) (Kh.iAd K "InvalidSurroundings") from TC.va 31 (by decide)) hr (by rfl)) (pa_cons (pe_mkE0 (show PySem.Kex.ValTxt P K mg "InvalidLook" (cl K 32) (Kh.iAd K "InvalidLook") from TC.va 32 (by decide)) hr (by rfl)) pa_nil))))))))
      (pss_one (ps_ret (pv 0))))))))), fun ds h => ?_⟩)
  · subst h
    rfl
  · subst h
    refine first_set ?_
    repeat refine dA_cons (dE_mkE0 ?_)
    refine dA_nil ⟨Nat.le_of_ble_eq_true rfl, ?_⟩
    repeat
      refine more_set rfl ?_
      repeat refine dA_cons (dE_mkE0 ?_)
      refine dA_nil ⟨Nat.le_of_ble_eq_true rfl, Nat.le_of_ble_eq_true rfl, ?_⟩
    exact dS_ret (dE_var rfl rfl)
end
end K1
namespace K1
open PySem L2 Kr
local macro_rules | `(tactic| one_item) => `(tactic| first
  | (with_reducible refine dS_seq ?_) | (with_reducible refine dS_ret ?_) | (with_reducible refine dS_if ?_) | (with_reducible refine dS_next ?_) | (with_reducible refine dS_nextE ?_) | (with_reducible refine dS_brkE ?_) | (with_reducible refine dS_ctE ?_)
  | (with_reducible refine dT_B ?_) | (with_reducible refine dT_test ?_) | (with_reducible refine dT_and ?_) | (with_reducible refine dT_or ?_) | (with_reducible refine dT_not ?_)
  | (with_reducible refine dE_and ?_) | (with_reducible refine dE_or ?_) | (with_reducible refine dE_not ?_) | (with_reducible refine dE_if ?_)
  | (with_reducible refine dE_int ?_) | (with_reducible refine dE_str ?_) | (with_reducible refine dE_bl ?_) | (with_reducible refine dE_non ?_)
  | ((with_reducible refine dE_varE ?_); refine ⟨_, rfl, ?_⟩) | ((with_reducible refine dE_ownE ?_); refine ⟨_, rfl, ?_⟩)
  | (with_reducible refine dE_ix ?_) | (with_reducible refine dE_op2 ?_) | (with_reducible refine dE_chain ?_) | (with_reducible refine dE_un ?_) | (with_reducible refine dA_cons ?_) | (with_reducible refine dA_nil ?_) | (with_reducible refine dE_callF ?_) | (with_reducible refine dE_tup ?_)
  | (refine ⟨fun (_ : true = true) => ?_, fun z => Bool.noConfusion z⟩) | (refine ⟨fun z => Bool.noConfusion z, fun (_ : false = false) => ?_⟩)
  | (with_reducible refine dE_callP (i := 0) rfl ?_)
  | (with_reducible refine dE_isStr ?_) | (with_reducible refine dE_isInt ?_) | (with_reducible refine dE_isBool ?_) | (with_reducible refine dE_isList ?_) | (with_reducible refine dE_isTup ?_) | (with_reducible refine dE_isDict ?_) | (with_reducible refine dE_cb ?_) | (with_reducible refine dE_lc ?_) | (with_reducible refine dE_lstF ?_) | (with_reducible refine dI_list ?_) | (with_reducible refine dI_tup ?_) | (with_reducible refine dI_str ?_) | (with_reducible refine dI_rng1 ?_) | (with_reducible refine dI_rng2 ?_) | (with_reducible refine dS_set ?_) | (with_reducible refine dS_augI ?_) | (with_reducible refine dS_brk ?_) | (with_reducible refine dS_ct ?_) | (with_reducible refine dO_none ?_) | (with_reducible refine dO_some ?_))
local macro_rules | `(tactic| one_place) => `(tactic| (repeat' one_item))
section
variable {P : Program} {w : World} {K : PySem.W.Frag} {mg : Str → Option Value} {base : Heap}
/-! ### _law_code, _law_is_error, _law_right -/
def codeI (i : Nat) : D := if i < 35 then .lst [.int (i : Int)] else .lst []
def gcode (K : PySem.W.Frag) (d : D) : D := match d.errC with
  | some C => (match (List.range 36).find? (fun i => decide (cl K i = C)) with
    | some i => codeI i
    | none => .non)
  | none => .non
theorem gcode_at (TC : Cl P K mg) {d : D} {i : Nat} (hi : i < 36) (h : d.errC = some (cl K i)) : gcode K d = codeI i := by
  unfold gcode
  rw [h]
  dsimp only
  have : (List.range 36).find? (fun j => decide (cl K j = cl K i)) = some i := by
    refine List.find?_range_eq_some.mpr ⟨decide_eq_true rfl, List.mem_range.mpr hi, fun j hj => ?_⟩
    rw [Bool.not_eq_true']
    exact decide_eq_false fun z => absurd (TC.sep j i (by omega) hi z) (by omega)
  rw [this]
def hit (i j : Nat) : Bool := decide (i = j) || decide (j = 35)
def isRow (i : Nat) : List D := [.bl (hit i 0), .bl (hit i 1), .bl (hit i 2), .bl (hit i 3), .bl (hit i 4), .bl (hit i 5), .bl (hit i 6), .bl (hit i 7), .bl (hit i 8), .bl (hit i 9), .bl (hit i 10), .bl (hit i 11), .bl (hit i 12), .bl (hit i 13), .bl (hit i 14), .bl (hit i 15), .bl (hit i 16), .bl (hit i 17), .bl (hit i 18), .bl (hit i 19), .bl (hit i 20), .bl (hit i 21), .bl (hit i 22), .bl (hit i 23), .bl (hit i 24), .bl (hit i 25), .bl (hit i 26), .bl (hit i 27), .bl (hit i 28), .bl (hit i 29), .bl (hit i 30), .bl (hit i 31), .bl (hit i 32), .bl (hit i 33), .bl (hit i 34)]
section
variable {E : XK} {ex : Addr → D → Prop} {f : Bool} {G : List Sl} {Q : D → List Sl → Prop} {d : D}
theorem isE_v (TC : Cl P K mg) {i j : Nat} (hi : i < 36) (hd : d.errC = some (cl K i)) (hj : j < 36) (h : G[0]? = some (.imm d)) (q : Q (.bl (hit i j)) G) : dE E ex f (tCB (rIsErr K) (tCons (tVar 0) (tCons (tC (.ref (cl K j))) tNil))) G Q :=
  dE_isErr (fun u z => z) (dE_var h ⟨cl K i, _, hd, TC.isi i hi, TC.kit i j hi hj, q⟩)
theorem isV_v (TC : Cl P K mg) {i : Nat} (hi : i < 36) (hd : d.errC = some (cl K i)) (h : G[0]? = some (.imm d)) (q : Q (.bl true) G) : dE E ex f (tCB (rIsErr K) (tCons (tVar 0) (tCons (tC (.ty "ValueError")) tNil))) G Q :=
  dE_isErr (fun u z => z) (dE_var h ⟨cl K i, _, hd, TC.isi i hi, TC.ve i hi, q⟩)
end
abbrev preE (K : PySem.W.Frag) : List D → Prop := fun ds => ∃ d i, ds = [d] ∧ i < 36 ∧ d.errC = some (cl K i)
abbrev g_code (K : PySem.W.Frag) : List D → D := fun ds => match ds with
  | [d] => gcode K d
  | _ => .non
abbrev sp_code (K : PySem.W.Frag) : Sp := spF (preE K) (g_code K)
theorem row_eq (i : Nat) : isRow i = (List.range 35).map fun j => .bl (hit i j) := rfl
theorem row_get {i j : Nat} (hj : j < 35) : (isRow i)[j]? = some (.bl (decide (i = j))) := by
  rw [row_eq, List.getElem?_map, List.getElem?_range hj]
  have : decide (j = 35) = false := decide_eq_false (by omega)
  show some (D.bl (decide (i = j) || decide (j = 35))) = _
  rw [this, Bool.or_false]
theorem row_filter : ∀ i : Nat, i < 36 → (((nats 0 35).filter fun d => match d with | .int n => decide ((i : Int) = n) | _ => false).map id) = (if i < 35 then [.int (i : Int)] else []) := by
  intro i hi
  have key : ∀ i : Nat, i < 36 → ((List.range 35).filter fun j : Nat => decide (i = j)) = (if i < 35 then [i] else []) := by decide
  have e : (nats 0 35) = (List.range 35).map fun j => D.int ((j : Nat) : Int) := by
    unfold nats
    refine List.map_congr_left fun j _ => ?_
    simp
  rw [e, List.filter_map, List.map_id]
  have e2 : ((fun d : D => match d with | .int n => decide ((i : Int) = n) | _ => false) ∘ fun j : Nat => D.int ((j : Nat) : Int)) = fun j : Nat => decide (i = j) := by
    funext j
    show decide ((i : Int) = (j : Int)) = _
    by_cases h : i = j
    · subst h; simp
    · rw [decide_eq_false h, decide_eq_false (fun z => h (by omega))]
  rw [e2, key i hi]
  split <;> rfl
theorem ok_code (T : Txt K mg) (TC : Cl P K mg) : Con P w K mg base "_law_code" p__law_code 1 (sp_code K) := by
  refine conF T.d__law_code sc__law_code (fun ds h => ?_) (fun f cdv A outer s H E hr => ⟨_, (pss_cons (ps_set (i := 1) sc__law_code.nd rfl (.inr rfl) (pe_lst (pa_cons (pe_callB (show CallR _ (.builtin "isinstance") (rIsErr K) from call_isErr) (by rfl) T.n_isinstance (by decide +kernel) (pa_cons (pv 0) (pa_cons (pe_glob (v := .ref (cl K 0)) (by rfl) (show mg "InvalidToken" = some (.ref (cl K 0)) from TC.gl 0 (by decide)) rfl) pa_nil))) (pa_cons (pe_callB (show CallR _ (.builtin "isinstance") (rIsErr K) from call_isErr) (by rfl) T.n_isinstance (by decide +kernel) (pa_cons (pv 0) (pa_cons (pe_glob (v := .ref (cl K 1)) (by rfl) (show mg "InvalidText" = some (.ref (cl K 1)) from TC.gl 1 (by decide)) rfl) pa_nil))) (pa_cons (pe_callB (show CallR _ (.builtin "isinstance") (rIsErr K) from call_isErr) (by rfl) T.n_isinstance (by decide +kernel) (pa_cons (pv 0) (pa_cons (pe_glob (v := .ref (cl K 2)) (by rfl) (show mg "InvalidForm" = some (.ref (cl K 2)) from TC.gl 2 (by decide)) rfl) pa_nil))) pa_nil)))))
      (pss_cons (ps_set (i := 1) sc__law_code.nd rfl (.inr rfl) (pe_op op_addA (pv 1) (pe_lst (pa_cons (pe_callB (show CallR _ (.builtin "isinstance") (rIsErr K) from call_isErr) (by rfl) T.n_isinstance (by decide +kernel) (pa_cons (pv 0) (pa_cons (pe_glob (v := .ref (cl K 3)) (by rfl) (show mg "InvalidForms" = some (.ref (cl K 3)) from TC.gl 3 (by decide)) rfl) pa_nil))) (pa_cons (pe_callB (show CallR _ (.builtin "isinstance") (rIsErr K) from call_isErr) (by rfl) T.n_isinstance (by decide +kernel) (pa_cons (pv 0) (pa_cons (pe_glob (v := .ref (cl K 4)) (by rfl) (show mg "InvalidWords" = some (.ref (cl K 4)) from TC.gl 4 (by decide)) rfl) pa_nil))) (pa_cons (pe_callB (show CallR _ (.builtin "isinstance") (rIsErr K) from call_isErr) (by rfl) T.n_isinstance (by decide +kernel) (pa_cons (pv 0) (pa_cons (pe_glob (v := .ref (cl K 5)) (by rfl) (show mg "Unsound" = some (.ref (cl K 5)) from TC.gl 5 (by decide)) rfl) pa_nil))) pa_nil))))))
      (pss_cons (ps_set (i := 1) sc__law_code.nd rfl (.inr rfl) (pe_op op_addA (pv 1) (pe_lst (pa_cons (pe_callB (show CallR _ (.builtin "isinstance") (rIsErr K) from call_isErr) (by rfl) T.n_isinstance (by decide +kernel) (pa_cons (pv 0) (pa_cons (pe_glob (v := .ref (cl K 6)) (by rfl) (show mg "InvalidEdition" = some (.ref (cl K 6)) from TC.gl 6 (by decide)) rfl) pa_nil))) (pa_cons (pe_callB (show CallR _ (.builtin "isinstance") (rIsErr K) from call_isErr) (by rfl) T.n_isinstance (by decide +kernel) (pa_cons (pv 0) (pa_cons (pe_glob (v := .ref (cl K 7)) (by rfl) (show mg "InvalidEditions" = some (.ref (cl K 7)) from TC.gl 7 (by decide)) rfl) pa_nil))) pa_nil)))))
      (pss_cons (ps_set (i := 1) sc__law_code.nd rfl (.inr rfl) (pe_op op_addA (pv 1) (pe_lst (pa_cons (pe_callB (show CallR _ (.builtin "isinstance") (rIsErr K) from call_isErr) (by rfl) T.n_isinstance (by decide +kernel) (pa_cons (pv 0) (pa_cons (pe_glob (v := .ref (cl K 8)) (by rfl) (show mg "InvalidChange" = some (.ref (cl K 8)) from TC.gl 8 (by decide)) rfl) pa_nil))) (pa_cons (pe_callB (show CallR _ (.builtin "isinstance") (rIsErr K) from call_isErr) (by rfl) T.n_isinstance (by decide +kernel) (pa_cons (pv 0) (pa_cons (pe_glob (v := .ref (cl K 9)) (by rfl) (show mg "InvalidChanges" = some (.ref (cl K 9)) from TC.gl 9 (by decide)) rfl) pa_nil))) pa_nil)))))
      (pss_cons (ps_set (i := 1) sc__law_code.nd rfl (.inr rfl) (pe_op op_addA (pv 1) (pe_lst (pa_cons (pe_callB (show CallR _ (.builtin "isinstance") (rIsErr K) from call_isErr) (by rfl) T.n_isinstance (by decide +kernel) (pa_cons (pv 0) (pa_cons (pe_glob (v := .ref (cl K 10)) (by rfl) (show mg "InvalidPattern" = some (.ref (cl K 10)) from TC.gl 10 (by decide)) rfl) pa_nil))) (pa_cons (pe_callB (show CallR _ (.builtin "isinstance") (rIsErr K) from call_isErr) (by rfl) T.n_isinstance (by decide +kernel) (pa_cons (pv 0) (pa_cons (pe_glob (v := .ref (cl K 11)) (by rfl) (show mg "Fault" = some (.ref (cl K 11)) from TC.gl 11 (by decide)) rfl) pa_nil))) (pa_cons (pe_callB (show CallR _ (.builtin "isinstance") (rIsErr K) from call_isErr) (by rfl) T.n_isinstance (by decide +kernel) (pa_cons (pv 0) (pa_cons (pe_glob (v := .ref (cl K 12)) (by rfl) (show mg "InvalidKey" = some (.ref (cl K 12)) from TC.gl 12 (by decide)) rfl) pa_nil))) pa_nil))))))
      (pss_cons (ps_set (i := 1) sc__law_code.nd rfl (.inr rfl) (pe_op op_addA (pv 1) (pe_lst (pa_cons (pe_callB (show CallR _ (.builtin "isinstance") (rIsErr K) from call_isErr) (by rfl) T.n_isinstance (by decide +kernel) (pa_cons (pv 0) (pa_cons (pe_glob (v := .ref (cl K 13)) (by rfl) (show mg "InvalidTree" = some (.ref (cl K 13)) from TC.gl 13 (by decide)) rfl) pa_nil))) (pa_cons (pe_callB (show CallR _ (.builtin "isinstance") (rIsErr K) from call_isErr) (by rfl) T.n_isinstance (by decide +kernel) (pa_cons (pv 0) (pa_cons (pe_glob (v := .ref (cl K 14)) (by rfl) (show mg "UnknownForm" = some (.ref (cl K 14)) from TC.gl 14 (by decide)) rfl) pa_nil))) pa_nil)))))
      (pss_cons (ps_set (i := 1) sc__law_code.nd rfl (.inr rfl) (pe_op op_addA (pv 1) (pe_lst (pa_cons (pe_callB (show CallR _ (.builtin "isinstance") (rIsErr K) from call_isErr) (by rfl) T.n_isinstance (by decide +kernel) (pa_cons (pv 0) (pa_cons (pe_glob (v := .ref (cl K 15)) (by rfl) (show mg "InvalidPath" = some (.ref (cl K 15)) from TC.gl 15 (by decide)) rfl) pa_nil))) (pa_cons (pe_callB (show CallR _ (.builtin "isinstance") (rIsErr K) from call_isErr) (by rfl) T.n_isinstance (by decide +kernel) (pa_cons (pv 0) (pa_cons (pe_glob (v := .ref (cl K 16)) (by rfl) (show mg "InvalidSpot" = some (.ref (cl K 16)) from TC.gl 16 (by decide)) rfl) pa_nil))) pa_nil)))))
      (pss_cons (ps_set (i := 1) sc__law_code.nd rfl (.inr rfl) (pe_op op_addA (pv 1) (pe_lst (pa_cons (pe_callB (show CallR _ (.builtin "isinstance") (rIsErr K) from call_isErr) (by rfl) T.n_isinstance (by decide +kernel) (pa_cons (pv 0) (pa_cons (pe_glob (v := .ref (cl K 17)) (by rfl) (show mg "InvalidMarks" = some (.ref (cl K 17)) from TC.gl 17 (by decide)) rfl) pa_nil))) (pa_cons (pe_callB (show CallR _ (.builtin "isinstance") (rIsErr K) from call_isErr) (by rfl) T.n_isinstance (by decide +kernel) (pa_cons (pv 0) (pa_cons (pe_glob (v := .ref (cl K 18)) (by rfl) (show mg "InvalidWay" = some (.ref (cl K 18)) from TC.gl 18 (by decide)) rfl) pa_nil))) pa_nil)))))
      (pss_cons (ps_set (i := 1) sc__law_code.nd rfl (.inr rfl) (pe_op op_addA (pv 1) (pe_lst (pa_cons (pe_callB (show CallR _ (.builtin "isinstance") (rIsErr K) from call_isErr) (by rfl) T.n_isinstance (by decide +kernel) (pa_cons (pv 0) (pa_cons (pe_glob (v := .ref (cl K 19)) (by rfl) (show mg "InvalidTable" = some (.ref (cl K 19)) from TC.gl 19 (by decide)) rfl) pa_nil))) (pa_cons (pe_callB (show CallR _ (.builtin "isinstance") (rIsErr K) from call_isErr) (by rfl) T.n_isinstance (by decide +kernel) (pa_cons (pv 0) (pa_cons (pe_glob (v := .ref (cl K 20)) (by rfl) (show mg "InvalidWorkshop" = some (.ref (cl K 20)) from TC.gl 20 (by decide)) rfl) pa_nil))) pa_nil)))))
      (pss_cons (ps_set (i := 1) sc__law_code.nd rfl (.inr rfl) (pe_op op_addA (pv 1) (pe_lst (pa_cons (pe_callB (show CallR _ (.builtin "isinstance") (rIsErr K) from call_isErr) (by rfl) T.n_isinstance (by decide +kernel) (pa_cons (pv 0) (pa_cons (pe_glob (v := .ref (cl K 21)) (by rfl) (show mg "InvalidLog" = some (.ref (cl K 21)) from TC.gl 21 (by decide)) rfl) pa_nil))) (pa_cons (pe_callB (show CallR _ (.builtin "isinstance") (rIsErr K) from call_isErr) (by rfl) T.n_isinstance (by decide +kernel) (pa_cons (pv 0) (pa_cons (pe_glob (v := .ref (cl K 22)) (by rfl) (show mg "InvalidScript" = some (.ref (cl K 22)) from TC.gl 22 (by decide)) rfl) pa_nil))) pa_nil)))))
      (pss_cons (ps_set (i := 1) sc__law_code.nd rfl (.inr rfl) (pe_op op_addA (pv 1) (pe_lst (pa_cons (pe_callB (show CallR _ (.builtin "isinstance") (rIsErr K) from call_isErr) (by rfl) T.n_isinstance (by decide +kernel) (pa_cons (pv 0) (pa_cons (pe_glob (v := .ref (cl K 23)) (by rfl) (show mg "InvalidCount" = some (.ref (cl K 23)) from TC.gl 23 (by decide)) rfl) pa_nil))) (pa_cons (pe_callB (show CallR _ (.builtin "isinstance") (rIsErr K) from call_isErr) (by rfl) T.n_isinstance (by decide +kernel) (pa_cons (pv 0) (pa_cons (pe_glob (v := .ref (cl K 24)) (by rfl) (show mg "Refused" = some (.ref (cl K 24)) from TC.gl 24 (by decide)) rfl) pa_nil))) (pa_cons (pe_callB (show CallR _ (.builtin "isinstance") (rIsErr K) from call_isErr) (by rfl) T.n_isinstance (by decide +kernel) (pa_cons (pv 0) (pa_cons (pe_glob (v := .ref (cl K 25)) (by rfl) (show mg "InvalidEdit" = some (.ref (cl K 25)) from TC.gl 25 (by decide)) rfl) pa_nil))) pa_nil))))))
      (pss_cons (ps_set (i := 1) sc__law_code.nd rfl (.inr rfl) (pe_op op_addA (pv 1) (pe_lst (pa_cons (pe_callB (show CallR _ (.builtin "isinstance") (rIsErr K) from call_isErr) (by rfl) T.n_isinstance (by decide +kernel) (pa_cons (pv 0) (pa_cons (pe_glob (v := .ref (cl K 26)) (by rfl) (show mg "UnknownPlace" = some (.ref (cl K 26)) from TC.gl 26 (by decide)) rfl) pa_nil))) (pa_cons (pe_callB (show CallR _ (.builtin "isinstance") (rIsErr K) from call_isErr) (by rfl) T.n_isinstance (by decide +kernel) (pa_cons (pv 0) (pa_cons (pe_glob (v := .ref (cl K 27)) (by rfl) (show mg "InvalidReason" = some (.ref (cl K 27)) from TC.gl 27 (by decide)) rfl) pa_nil))) pa_nil)))))
      (pss_cons (ps_set (i := 1) sc__law_code.nd rfl (.inr rfl) (pe_op op_addA (pv 1) (pe_lst (pa_cons (pe_callB (show CallR _ (.builtin "isinstance") (rIsErr K) from call_isErr) (by rfl) T.n_isinstance (by decide +kernel) (pa_cons (pv 0) (pa_cons (pe_glob (v := .ref (cl K 28)) (by rfl) (show mg "InvalidStack" = some (.ref (cl K 28)) from TC.gl 28 (by decide)) rfl) pa_nil))) (pa_cons (pe_callB (show CallR _ (.builtin "isinstance") (rIsErr K) from call_isErr) (by rfl) T.n_isinstance (by decide +kernel) (pa_cons (pv 0) (pa_cons (pe_glob (v := .ref (cl K 29)) (by rfl) (show mg "InvalidRow" = some (.ref (cl K 29)) from TC.gl 29 (by decide)) rfl) pa_nil))) pa_nil)))))
      (pss_cons (ps_set (i := 1) sc__law_code.nd rfl (.inr rfl) (pe_op op_addA (pv 1) (pe_lst (pa_cons (pe_callB (show CallR _ (.builtin "isinstance") (rIsErr K) from call_isErr) (by rfl) T.n_isinstance (by decide +kernel) (pa_cons (pv 0) (pa_cons (pe_glob (v := .ref (cl K 30)) (by rfl) (show mg "InvalidLot" = some (.ref (cl K 30)) from TC.gl 30 (by decide)) rfl) pa_nil))) (pa_cons (pe_callB (show CallR _ (.builtin "isinstance") (rIsErr K) from call_isErr) (by rfl) T.n_isinstance (by decide +kernel) (pa_cons (pv 0) (pa_cons (pe_glob (v := .ref (cl K 31)) (by rfl) (show mg "InvalidSurroundings" = some (.ref (cl K 31)) from TC.gl 31 (by decide)) rfl) pa_nil))) pa_nil)))))
      (pss_cons (ps_set (i := 1) sc__law_code.nd rfl (.inr rfl) (pe_op op_addA (pv 1) (pe_lst (pa_cons (pe_callB (show CallR _ (.builtin "isinstance") (rIsErr K) from call_isErr) (by rfl) T.n_isinstance (by decide +kernel) (pa_cons (pv 0) (pa_cons (pe_glob (v := .ref (cl K 32)) (by rfl) (show mg "InvalidLook" = some (.ref (cl K 32)) from TC.gl 32 (by decide)) rfl) pa_nil))) (pa_cons (pe_callB (show CallR _ (.builtin "isinstance") (rIsErr K) from call_isErr) (by rfl) T.n_isinstance (by decide +kernel) (pa_cons (pv 0) (pa_cons (pe_glob (v := .ref (cl K 33)) (by rfl) (show mg "NothingToUndo" = some (.ref (cl K 33)) from TC.gl 33 (by decide)) rfl) pa_nil))) pa_nil)))))
      (pss_cons (ps_set (i := 1) sc__law_code.nd rfl (.inr rfl) (pe_op op_addA (pv 1) (pe_lst (pa_cons (pe_callB (show CallR _ (.builtin "isinstance") (rIsErr K) from call_isErr) (by rfl) T.n_isinstance (by decide +kernel) (pa_cons (pv 0) (pa_cons (pe_glob (v := .ref (cl K 34)) (by rfl) (show mg "NothingToRedo" = some (.ref (cl K 34)) from TC.gl 34 (by decide)) rfl) pa_nil))) pa_nil))))
      (pss_one (ps_ret (pe_lc (own := [("_law_at", 2)]) rfl sc__law_code.nd (pi_range1 (by rfl) T.n_range (pa_cons (pe_callB call_lenA (by rfl) T.n_len (by decide +kernel) (pa_cons (pv 1) pa_nil)) pa_nil)) (blkOk_by (own := [("_law_at", 2)]) (N := n__law_code) (sc := defScope s__law_code) (by decide +kernel)) (fun _ _ _ _ _ => (pg_name (i := 2) sc__law_code.nd rfl (Or.inl rfl))) (fun _ _ _ _ _ => (pts_one (pt_val (pe_ix (show IxR _ (rIx K) from ix_seq) (pv 1) (pv 2) (fun _ _ => rfl))))) (fun _ _ _ _ _ => (pv 2))))))))))))))))))))), fun ds h => ?_⟩)
  · obtain ⟨d, i, rfl, _⟩ := h
    rfl
  · obtain ⟨d, i, rfl, hi, hd⟩ := h
    refine first_set ?_
    refine dA_cons (isE_v TC hi hd (by decide) rfl ?_)
    refine dA_cons (isE_v TC hi hd (by decide) rfl ?_)
    refine dA_cons (isE_v TC hi hd (by decide) rfl ?_)
    refine dA_nil ⟨Nat.le_of_ble_eq_true rfl, ?_⟩
    show dS E0 (fun _ _ => False) _ [.imm d, .imm (.lst [.bl (hit i 0), .bl (hit i 1), .bl (hit i 2)]), .any] _
    refine more_set rfl ?_
    refine dA_cons (isE_v TC hi hd (by decide) rfl ?_)
    refine dA_cons (isE_v TC hi hd (by decide) rfl ?_)
    refine dA_cons (isE_v TC hi hd (by decide) rfl ?_)
    refine dA_nil ⟨Nat.le_of_ble_eq_true rfl, Nat.le_of_ble_eq_true rfl, ?_⟩
    show dS E0 (fun _ _ => False) _ [.imm d, .imm (.lst [.bl (hit i 0), .bl (hit i 1), .bl (hit i 2), .bl (hit i 3), .bl (hit i 4), .bl (hit i 5)]), .any] _
    refine more_set rfl ?_
    refine dA_cons (isE_v TC hi hd (by decide) rfl ?_)
    refine dA_cons (isE_v TC hi hd (by decide) rfl ?_)
    refine dA_nil ⟨Nat.le_of_ble_eq_true rfl, Nat.le_of_ble_eq_true rfl, ?_⟩
    show dS E0 (fun _ _ => False) _ [.imm d, .imm (.lst [.bl (hit i 0), .bl (hit i 1), .bl (hit i 2), .bl (hit i 3), .bl (hit i 4), .bl (hit i 5), .bl (hit i 6), .bl (hit i 7)]), .any] _
    refine more_set rfl ?_
    refine dA_cons (isE_v TC hi hd (by decide) rfl ?_)
    refine dA_cons (isE_v TC hi hd (by decide) rfl ?_)
    refine dA_nil ⟨Nat.le_of_ble_eq_true rfl, Nat.le_of_ble_eq_true rfl, ?_⟩
    show dS E0 (fun _ _ => False) _ [.imm d, .imm (.lst [.bl (hit i 0), .bl (hit i 1), .bl (hit i 2), .bl (hit i 3), .bl (hit i 4), .bl (hit i 5), .bl (hit i 6), .bl (hit i 7), .bl (hit i 8), .bl (hit i 9)]), .any] _
    refine more_set rfl ?_
    refine dA_cons (isE_v TC hi hd (by decide) rfl ?_)
    refine dA_cons (isE_v TC hi hd (by decide) rfl ?_)
    refine dA_cons (isE_v TC hi hd (by decide) rfl ?_)
    refine dA_nil ⟨Nat.le_of_ble_eq_true rfl, Nat.le_of_ble_eq_true rfl, ?_⟩
    show dS E0 (fun _ _ => False) _ [.imm d, .imm (.lst [.bl (hit i 0), .bl (hit i 1), .bl (hit i 2), .bl (hit i 3), .bl (hit i 4), .bl (hit i 5), .bl (hit i 6), .bl (hit i 7), .bl (hit i 8), .bl (hit i 9), .bl (hit i 10), .bl (hit i 11), .bl (hit i 12)]), .any] _
    refine more_set rfl ?_
    refine dA_cons (isE_v TC hi hd (by decide) rfl ?_)
    refine dA_cons (isE_v TC hi hd (by decide) rfl ?_)
    refine dA_nil ⟨Nat.le_of_ble_eq_true rfl, Nat.le_of_ble_eq_true rfl, ?_⟩
    show dS E0 (fun _ _ => False) _ [.imm d, .imm (.lst [.bl (hit i 0), .bl (hit i 1), .bl (hit i 2), .bl (hit i 3), .bl (hit i 4), .bl (hit i 5), .bl (hit i 6), .bl (hit i 7), .bl (hit i 8), .bl (hit i 9), .bl (hit i 10), .bl (hit i 11), .bl (hit i 12), .bl (hit i 13), .bl (hit i 14)]), .any] _
    refine more_set rfl ?_
    refine dA_cons (isE_v TC hi hd (by decide) rfl ?_)
    refine dA_cons (isE_v TC hi hd (by decide) rfl ?_)
    refine dA_nil ⟨Nat.le_of_ble_eq_true rfl, Nat.le_of_ble_eq_true rfl, ?_⟩
    show dS E0 (fun _ _ => False) _ [.imm d, .imm (.lst [.bl (hit i 0), .bl (hit i 1), .bl (hit i 2), .bl (hit i 3), .bl (hit i 4), .bl (hit i 5), .bl (hit i 6), .bl (hit i 7), .bl (hit i 8), .bl (hit i 9), .bl (hit i 10), .bl (hit i 11), .bl (hit i 12), .bl (hit i 13), .bl (hit i 14), .bl (hit i 15), .bl (hit i 16)]), .any] _
    refine more_set rfl ?_
    refine dA_cons (isE_v TC hi hd (by decide) rfl ?_)
    refine dA_cons (isE_v TC hi hd (by decide) rfl ?_)
    refine dA_nil ⟨Nat.le_of_ble_eq_true rfl, Nat.le_of_ble_eq_true rfl, ?_⟩
    show dS E0 (fun _ _ => False) _ [.imm d, .imm (.lst [.bl (hit i 0), .bl (hit i 1), .bl (hit i 2), .bl (hit i 3), .bl (hit i 4), .bl (hit i 5), .bl (hit i 6), .bl (hit i 7), .bl (hit i 8), .bl (hit i 9), .bl (hit i 10), .bl (hit i 11), .bl (hit i 12), .bl (hit i 13), .bl (hit i 14), .bl (hit i 15), .bl (hit i 16), .bl (hit i 17), .bl (hit i 18)]), .any] _
    refine more_set rfl ?_
    refine dA_cons (isE_v TC hi hd (by decide) rfl ?_)
    refine dA_cons (isE_v TC hi hd (by decide) rfl ?_)
    refine dA_nil ⟨Nat.le_of_ble_eq_true rfl, Nat.le_of_ble_eq_true rfl, ?_⟩
    show dS E0 (fun _ _ => False) _ [.imm d, .imm (.lst [.bl (hit i 0), .bl (hit i 1), .bl (hit i 2), .bl (hit i 3), .bl (hit i 4), .bl (hit i 5), .bl (hit i 6), .bl (hit i 7), .bl (hit i 8), .bl (hit i 9), .bl (hit i 10), .bl (hit i 11), .bl (hit i 12), .bl (hit i 13), .bl (hit i 14), .bl (hit i 15), .bl (hit i 16), .bl (hit i 17), .bl (hit i 18), .bl (hit i 19), .bl (hit i 20)]), .any] _
    refine more_set rfl ?_
    refine dA_cons (isE_v TC hi hd (by decide) rfl ?_)
    refine dA_cons (isE_v TC hi hd (by decide) rfl ?_)
    refine dA_nil ⟨Nat.le_of_ble_eq_true rfl, Nat.le_of_ble_eq_true rfl, ?_⟩
    show dS E0 (fun _ _ => False) _ [.imm d, .imm (.lst [.bl (hit i 0), .bl (hit i 1), .bl (hit i 2), .bl (hit i 3), .bl (hit i 4), .bl (hit i 5), .bl (hit i 6), .bl (hit i 7), .bl (hit i 8), .bl (hit i 9), .bl (hit i 10), .bl (hit i 11), .bl (hit i 12), .bl (hit i 13), .bl (hit i 14), .bl (hit i 15), .bl (hit i 16), .bl (hit i 17), .bl (hit i 18), .bl (hit i 19), .bl (hit i 20), .bl (hit i 21), .bl (hit i 22)]), .any] _
    refine more_set rfl ?_
    refine dA_cons (isE_v TC hi hd (by decide) rfl ?_)
    refine dA_cons (isE_v TC hi hd (by decide) rfl ?_)
    refine dA_cons (isE_v TC hi hd (by decide) rfl ?_)
    refine dA_nil ⟨Nat.le_of_ble_eq_true rfl, Nat.le_of_ble_eq_true rfl, ?_⟩
    show dS E0 (fun _ _ => False) _ [.imm d, .imm (.lst [.bl (hit i 0), .bl (hit i 1), .bl (hit i 2), .bl (hit i 3), .bl (hit i 4), .bl (hit i 5), .bl (hit i 6), .bl (hit i 7), .bl (hit i 8), .bl (hit i 9), .bl (hit i 10), .bl (hit i 11), .bl (hit i 12), .bl (hit i 13), .bl (hit i 14), .bl (hit i 15), .bl (hit i 16), .bl (hit i 17), .bl (hit i 18), .bl (hit i 19), .bl (hit i 20), .bl (hit i 21), .bl (hit i 22), .bl (hit i 23), .bl (hit i 24), .bl (hit i 25)]), .any] _
    refine more_set rfl ?_
    refine dA_cons (isE_v TC hi hd (by decide) rfl ?_)
    refine dA_cons (isE_v TC hi hd (by decide) rfl ?_)
    refine dA_nil ⟨Nat.le_of_ble_eq_true rfl, Nat.le_of_ble_eq_true rfl, ?_⟩
    show dS E0 (fun _ _ => False) _ [.imm d, .imm (.lst [.bl (hit i 0), .bl (hit i 1), .bl (hit i 2), .bl (hit i 3), .bl (hit i 4), .bl (hit i 5), .bl (hit i 6), .bl (hit i 7), .bl (hit i 8), .bl (hit i 9), .bl (hit i 10), .bl (hit i 11), .bl (hit i 12), .bl (hit i 13), .bl (hit i 14), .bl (hit i 15), .bl (hit i 16), .bl (hit i 17), .bl (hit i 18), .bl (hit i 19), .bl (hit i 20), .bl (hit i 21), .bl (hit i 22), .bl (hit i 23), .bl (hit i 24), .bl (hit i 25), .bl (hit i 26), .bl (hit i 27)]), .any] _
    refine more_set rfl ?_
    refine dA_cons (isE_v TC hi hd (by decide) rfl ?_)
    refine dA_cons (isE_v TC hi hd (by decide) rfl ?_)
    refine dA_nil ⟨Nat.le_of_ble_eq_true rfl, Nat.le_of_ble_eq_true rfl, ?_⟩
    show dS E0 (fun _ _ => False) _ [.imm d, .imm (.lst [.bl (hit i 0), .bl (hit i 1), .bl (hit i 2), .bl (hit i 3), .bl (hit i 4), .bl (hit i 5), .bl (hit i 6), .bl (hit i 7), .bl (hit i 8), .bl (hit i 9), .bl (hit i 10), .bl (hit i 11), .bl (hit i 12), .bl (hit i 13), .bl (hit i 14), .bl (hit i 15), .bl (hit i 16), .bl (hit i 17), .bl (hit i 18), .bl (hit i 19), .bl (hit i 20), .bl (hit i 21), .bl (hit i 22), .bl (hit i 23), .bl (hit i 24), .bl (hit i 25), .bl (hit i 26), .bl (hit i 27), .bl (hit i 28), .bl (hit i 29)]), .any] _
    refine more_set rfl ?_
    refine dA_cons (isE_v TC hi hd (by decide) rfl ?_)
    refine dA_cons (isE_v TC hi hd (by decide) rfl ?_)
    refine dA_nil ⟨Nat.le_of_ble_eq_true rfl, Nat.le_of_ble_eq_true rfl, ?_⟩
    show dS E0 (fun _ _ => False) _ [.imm d, .imm (.lst [.bl (hit i 0), .bl (hit i 1), .bl (hit i 2), .bl (hit i 3), .bl (hit i 4), .bl (hit i 5), .bl (hit i 6), .bl (hit i 7), .bl (hit i 8), .bl (hit i 9), .bl (hit i 10), .bl (hit i 11), .bl (hit i 12), .bl (hit i 13), .bl (hit i 14), .bl (hit i 15), .bl (hit i 16), .bl (hit i 17), .bl (hit i 18), .bl (hit i 19), .bl (hit i 20), .bl (hit i 21), .bl (hit i 22), .bl (hit i 23), .bl (hit i 24), .bl (hit i 25), .bl (hit i 26), .bl (hit i 27), .bl (hit i 28), .bl (hit i 29), .bl (hit i 30), .bl (hit i 31)]), .any] _
    refine more_set rfl ?_
    refine dA_cons (isE_v TC hi hd (by decide) rfl ?_)
    refine dA_cons (isE_v TC hi hd (by decide) rfl ?_)
    refine dA_nil ⟨Nat.le_of_ble_eq_true rfl, Nat.le_of_ble_eq_true rfl, ?_⟩
    show dS E0 (fun _ _ => False) _ [.imm d, .imm (.lst [.bl (hit i 0), .bl (hit i 1), .bl (hit i 2), .bl (hit i 3), .bl (hit i 4), .bl (hit i 5), .bl (hit i 6), .bl (hit i 7), .bl (hit i 8), .bl (hit i 9), .bl (hit i 10), .bl (hit i 11), .bl (hit i 12), .bl (hit i 13), .bl (hit i 14), .bl (hit i 15), .bl (hit i 16), .bl (hit i 17), .bl (hit i 18), .bl (hit i 19), .bl (hit i 20), .bl (hit i 21), .bl (hit i 22), .bl (hit i 23), .bl (hit i 24), .bl (hit i 25), .bl (hit i 26), .bl (hit i 27), .bl (hit i 28), .bl (hit i 29), .bl (hit i 30), .bl (hit i 31), .bl (hit i 32), .bl (hit i 33)]), .any] _
    refine more_set rfl ?_
    refine dA_cons (isE_v TC hi hd (by decide) rfl ?_)
    refine dA_nil ⟨Nat.le_of_ble_eq_true rfl, Nat.le_of_ble_eq_true rfl, ?_⟩
    show dS E0 (fun _ _ => False) _ [.imm d, .imm (.lst (isRow i)), .any] _
    refine dS_ret (dE_lc (dL_filter (dI_rng1 (dA_cons (dE_cb (dA_cons (dE_var rfl (dA_nil ⟨_, ca_len (n := 35) (by rfl), dA_nil ⟨35, rfl, by decide, by decide, (fun d => match d with | .int n => decide ((i : Int) = n) | _ => false), id, by rw [nats_length]; decide, fun e he => ?_, ?_⟩⟩))))))))
    · obtain ⟨j, hj, rfl⟩ : ∃ j : Nat, j < 35 ∧ e = .int (j : Int) := by
        unfold nats at he
        obtain ⟨j, hj, rfl⟩ := List.mem_map.mp he
        exact ⟨j, List.mem_range.mp hj, by simp⟩
      refine dT_test (dE_ix (dE_var rfl (dE_var rfl ⟨(j : Int), .bl (decide (i = j)), rfl, .inl ⟨_, rfl, atI_nat (row_get hj)⟩, _, rfl, ?_, rfl, fun _ => dE_var rfl ⟨rfl, rfl⟩⟩)))
      show decide (i = j) = decide ((i : Int) = (j : Int))
      by_cases h : i = j
      · subst h; simp
      · rw [decide_eq_false h, decide_eq_false (fun z => h (by omega))]
    · show D.lst _ = gcode K _
      rw [gcode_at TC hi hd]
      show D.lst (((nats 0 35).filter _).map id) = _
      rw [row_filter i hi]
      unfold codeI
      split <;> rfl
abbrev sp_is_error (K : PySem.W.Frag) : Sp := spF (preE K) fun _ => .bl true
theorem ok_is_error (T : Txt K mg) (TC : Cl P K mg) : Con P w K mg base "_law_is_error" p__law_is_error 1 (sp_is_error K) := by
  refine conF T.d__law_is_error sc__law_is_error (fun ds h => ?_) (fun f cdv A outer s H E hr => ⟨_, (pss_one (ps_ret (pe_and (pe_callB (show CallR _ (.builtin "isinstance") (rIsErr K) from call_isErr) (by rfl) T.n_isinstance (by decide +kernel) (pa_cons (pv 0) (pa_cons (pe_glob (v := .ref (cl K 35)) (by rfl) (show mg "TongueError" = some (.ref (cl K 35)) from TC.gl 35 (by decide)) rfl) pa_nil))) (pe_one (pe_callB (show CallR _ (.builtin "isinstance") (rIsErr K) from call_isErr) (by rfl) T.n_isinstance (by decide +kernel) (pa_cons (pv 0) (pa_cons (pe_bltn (v := .ty "ValueError") (by rfl) T.n_ValueError (by decide +kernel) rfl) pa_nil))))))), fun ds h => ?_⟩)
  · obtain ⟨d, i, rfl, _⟩ := h
    rfl
  · obtain ⟨d, i, rfl, hi, hd⟩ := h
    have e : hit i 35 = true := by
      unfold hit
      rw [decide_eq_true (rfl : (35 : Nat) = 35), Bool.or_true]
    refine dS_ret (dE_and (isE_v TC hi hd (by decide) rfl ⟨_, rfl, fun _ => isV_v TC hi hd rfl rfl, fun z => ?_⟩))
    rw [e] at z
    cases z
end
end K1
namespace K1
open PySem L2 Kr
local macro_rules | `(tactic| one_item) => `(tactic| first
  | (with_reducible refine dS_seq ?_) | (with_reducible refine dS_ret ?_) | (with_reducible refine dS_if ?_) | (with_reducible refine dS_next ?_) | (with_reducible refine dS_nextE ?_) | (with_reducible refine dS_brkE ?_) | (with_reducible refine dS_ctE ?_)
  | (with_reducible refine dT_B ?_) | (with_reducible refine dT_test ?_) | (with_reducible refine dT_and ?_) | (with_reducible refine dT_or ?_) | (with_reducible refine dT_not ?_)
  | (with_reducible refine dE_and ?_) | (with_reducible refine dE_or ?_) | (with_reducible refine dE_not ?_) | (with_reducible refine dE_if ?_)
  | (with_reducible refine dE_int ?_) | (with_reducible refine dE_str ?_) | (with_reducible refine dE_bl ?_) | (with_reducible refine dE_non ?_)
  | ((with_reducible refine dE_varE ?_); refine ⟨_, rfl, ?_⟩) | ((with_reducible refine dE_ownE ?_); refine ⟨_, rfl, ?_⟩)
  | (with_reducible refine dE_ix ?_) | (with_reducible refine dE_op2 ?_) | (with_reducible refine dE_chain ?_) | (with_reducible refine dE_un ?_) | (with_reducible refine dA_cons ?_) | (with_reducible refine dA_nil ?_) | (with_reducible refine dE_callF ?_) | (with_reducible refine dE_tup ?_)
  | (refine ⟨fun (_ : true = true) => ?_, fun z => Bool.noConfusion z⟩) | (refine ⟨fun z => Bool.noConfusion z, fun (_ : false = false) => ?_⟩)
  | (with_reducible refine dE_callP (i := 0) rfl ?_)
  | (with_reducible refine dE_isStr ?_) | (with_reducible refine dE_isInt ?_) | (with_reducible refine dE_isBool ?_) | (with_reducible refine dE_isList ?_) | (with_reducible refine dE_isTup ?_) | (with_reducible refine dE_isDict ?_) | (with_reducible refine dE_cb ?_) | (with_reducible refine dE_lc ?_) | (with_reducible refine dE_lstF ?_) | (with_reducible refine dI_list ?_) | (with_reducible refine dI_tup ?_) | (with_reducible refine dI_str ?_) | (with_reducible refine dI_rng1 ?_) | (with_reducible refine dI_rng2 ?_) | (with_reducible refine dS_set ?_) | (with_reducible refine dS_augI ?_) | (with_reducible refine dS_brk ?_) | (with_reducible refine dS_ct ?_) | (with_reducible refine dO_none ?_) | (with_reducible refine dO_some ?_))
local macro_rules | `(tactic| one_place) => `(tactic| (repeat' one_item))
section
variable {P : Program} {w : World} {K : PySem.W.Frag} {mg : Str → Option Value} {base : Heap}
/-! ### _law_right -/
abbrev preR (K : PySem.W.Frag) : List D → Prop := fun ds => ∃ d, ds = [.lst (errs K d), .str d.text] ∧ d.rok = true
abbrev sp_right (K : PySem.W.Frag) : Sp := spD (preR K) fun _ r => r = .bl true
theorem errs_mem {d e : D} (h : e ∈ errs K d) : ∃ i, i < 33 ∧ e = .err (cl K i) d := by
  obtain ⟨i, hi, rfl⟩ := List.mem_map.mp h
  exact ⟨i, List.mem_range.mp hi, rfl⟩
def codes : List D := (List.range 33).map fun i : Nat => .lst [.int (i : Int)]
theorem errs_codes (TC : Cl P K mg) (d : D) : (errs K d).map (gcode K) = codes := by
  unfold errs codes
  rw [List.map_map]
  refine List.map_congr_left fun i hi => ?_
  have hi := List.mem_range.mp hi
  show gcode K (.err (cl K i) d) = _
  rw [gcode_at TC (i := i) (by omega) rfl]
  unfold codeI
  rw [if_pos (by omega)]
theorem nats_codes : (nats 0 33).map (fun d => D.lst [d]) = codes := by
  unfold nats codes
  rw [List.map_map]
  refine List.map_congr_left fun i _ => ?_
  show D.lst [.int (0 + (i : Int))] = _
  rw [Int.zero_add]
theorem ok_right (T : Txt K mg) (TC : Cl P K mg) (c__law_code : Con P w K mg base "_law_code" p__law_code 1 (sp_code K)) (c__law_is_error : Con P w K mg base "_law_is_error" p__law_is_error 1 (sp_is_error K)) : ConG P w K mg base "_law_right" p__law_right 2 (sp_right K) := by
  refine conDG T.d__law_right sc__law_right (fun ds h => ?_) (fun f cdv A outer s H E hr free => ⟨_, (pss_cons (ps_if (pt_cmpR (op_neA hr.units) (pe_lc (own := [("_law_error", 2)]) rfl sc__law_right.nd (pi_list (pv 0)) (blkOk_by (own := [("_law_error", 2)]) (N := n__law_right) (sc := defScope s__law_right) (by decide +kernel)) (fun _ _ _ _ _ => (pg_name (i := 2) sc__law_right.nd rfl (Or.inl rfl))) (fun _ _ _ _ _ => pts_nil) (fun _ _ _ _ _ => (pe_con c__law_code (hr.mono (by decide)) (by rfl) (pa_cons (pv 2) pa_nil)))) (pe_lc (own := [("_law_at", 3)]) rfl sc__law_right.nd (pi_range1 (by rfl) T.n_range (pa_cons pe_int pa_nil)) (blkOk_by (own := [("_law_at", 3)]) (N := n__law_right) (sc := defScope s__law_right) (by decide +kernel)) (fun _ _ _ _ _ => (pg_name (i := 3) sc__law_right.nd rfl (Or.inl rfl))) (fun _ _ _ _ _ => pts_nil) (fun _ _ _ _ _ => (pe_lst (pa_cons (pv 3) pa_nil)))) (nomark _)) (pss_one (ps_ret pe_bl)) pss_nil)
      (pss_one (ps_ret (pe_cmpR (op_eqA hr.units) (pe_lc (own := [("_law_error", 2)]) rfl sc__law_right.nd (pi_list (pv 0)) (blkOk_by (own := [("_law_error", 2)]) (N := n__law_right) (sc := defScope s__law_right) (by decide +kernel)) (fun _ _ _ _ _ => (pg_name (i := 2) sc__law_right.nd rfl (Or.inl rfl))) (fun _ _ _ _ _ => (pts_one (PW.pt (pw_or (pt_not (pt_val (pe_con c__law_is_error (hr.mono (by decide)) (by rfl) (pa_cons (pv 2) pa_nil)))) (pw_or1 (pt_cmpR (show OpR _ (compareOp .NotEq) (rNeA K) from (op_neA hr.units)) (pe_callB (show CallR _ (.builtin "repr") rRepr from call_repr free (units65 hr) TC.sys) (by rfl) T.n_repr (by decide +kernel) (pa_cons (show PE _ _ (tErrV K _) from pe_errV (pv 2)) pa_nil)) (pv 1) (nomark _))))))) (fun _ _ _ _ _ => (pv 2))) (pe_lst pa_nil) (nomark _))))), fun ds h => ?_⟩)
  · obtain ⟨d, rfl, _⟩ := h
    rfl
  · obtain ⟨d, rfl, hd⟩ := h
    have len : (errs K d).length ≤ 1000000 := by simp [errs]
    refine dS_seq (dS_if (dT_test (dE_op2 (dE_lc (dL_map (dI_list (dE_var rfl ⟨_, rfl, gcode K, len, fun e he => ?_, ?_⟩)))))))
    · obtain ⟨i, hi, rfl⟩ := errs_mem he
      exact dE_callF (dA_cons (dE_var rfl (dA_nil ⟨⟨_, i, rfl, by omega, rfl⟩, rfl, rfl⟩)))
    rw [errs_codes TC]
    refine dE_lc (dL_map (dI_rng1 (dA_cons (dE_int (dA_nil ⟨33, rfl, by decide, by decide, (fun d => D.lst [d]), by rw [nats_length]; decide, fun e he => ?_, ?_⟩)))))
    · exact dE_lst (dA_cons (dE_var rfl (dA_nil ⟨by simp, rfl, rfl⟩)))
    rw [show (33 : Int).toNat = 33 from rfl, nats_codes]
    refine ⟨_, od_ne (by decide +kernel) (by decide +kernel), _, rfl, fun z => ?_, fun _ => ?_⟩
    · exact absurd z (by decide +kernel)
    refine dS_nextE ?_
    refine dS_ret (dE_op2 (dE_lc (dL_filter (dI_list (dE_var rfl ⟨_, rfl, (fun _ => false), id, len, fun e he => ?_, ?_⟩)))))
    · obtain ⟨i, hi, rfl⟩ := errs_mem he
      refine dT_or (dT_not (dT_B (dE_callF (dA_cons (dE_var rfl (dA_nil ⟨⟨_, i, rfl, by omega, rfl⟩, true, rfl, fun z => Bool.noConfusion z, fun _ => ?_⟩))))))
      have V := TC.va i hi
      refine dT_test (dE_op2 (dE_repr (dE_errV (dE_var rfl ⟨cl K i, d, rfl, ⟨V.ga, V.gg, V.exC, V.hdC⟩, V.noN, hd, dE_var rfl ⟨_, od_neS, _, rfl, ?_, rfl, fun z => ?_⟩⟩))))
      · simp
      · simp at z
    · refine dE_lst (dA_nil ⟨by simp, ?_⟩)
      have e : ((errs K d).filter fun _ => false).map id = [] := by simp
      rw [e]
      refine ⟨_, od_eq (by decide +kernel) (by decide +kernel), ?_⟩
      exact congrArg D.bl (by decide +kernel : D.eq (.lst []) (.lst []) = true)
end
end K1
namespace K1
open PySem L2 Kr
local macro_rules | `(tactic| one_item) => `(tactic| first
  | (with_reducible refine dS_seq ?_) | (with_reducible refine dS_ret ?_) | (with_reducible refine dS_if ?_) | (with_reducible refine dS_next ?_) | (with_reducible refine dS_nextE ?_) | (with_reducible refine dS_brkE ?_) | (with_reducible refine dS_ctE ?_)
  | (with_reducible refine dT_B ?_) | (with_reducible refine dT_test ?_) | (with_reducible refine dT_and ?_) | (with_reducible refine dT_or ?_) | (with_reducible refine dT_not ?_)
  | (with_reducible refine dE_and ?_) | (with_reducible refine dE_or ?_) | (with_reducible refine dE_not ?_) | (with_reducible refine dE_if ?_)
  | (with_reducible refine dE_int ?_) | (with_reducible refine dE_str ?_) | (with_reducible refine dE_bl ?_) | (with_reducible refine dE_non ?_)
  | ((with_reducible refine dE_varE ?_); refine ⟨_, rfl, ?_⟩) | ((with_reducible refine dE_ownE ?_); refine ⟨_, rfl, ?_⟩)
  | (with_reducible refine dE_ix ?_) | (with_reducible refine dE_op2 ?_) | (with_reducible refine dE_chain ?_) | (with_reducible refine dE_un ?_) | (with_reducible refine dA_cons ?_) | (with_reducible refine dA_nil ?_) | (with_reducible refine dE_callF ?_) | (with_reducible refine dE_tup ?_)
  | (refine ⟨fun (_ : true = true) => ?_, fun z => Bool.noConfusion z⟩) | (refine ⟨fun z => Bool.noConfusion z, fun (_ : false = false) => ?_⟩)
  | (with_reducible refine dE_callP (i := 0) rfl ?_)
  | (with_reducible refine dE_isStr ?_) | (with_reducible refine dE_isInt ?_) | (with_reducible refine dE_isBool ?_) | (with_reducible refine dE_isList ?_) | (with_reducible refine dE_isTup ?_) | (with_reducible refine dE_isDict ?_) | (with_reducible refine dE_cb ?_) | (with_reducible refine dE_lc ?_) | (with_reducible refine dE_lstF ?_) | (with_reducible refine dI_list ?_) | (with_reducible refine dI_tup ?_) | (with_reducible refine dI_str ?_) | (with_reducible refine dI_rng1 ?_) | (with_reducible refine dI_rng2 ?_) | (with_reducible refine dS_set ?_) | (with_reducible refine dS_augI ?_) | (with_reducible refine dS_brk ?_) | (with_reducible refine dS_ct ?_) | (with_reducible refine dO_none ?_) | (with_reducible refine dO_some ?_))
local macro_rules | `(tactic| one_place) => `(tactic| (repeat' one_item))
section
variable {P : Program} {w : World} {K : PySem.W.Frag} {mg : Str → Option Value} {base : Heap}
/-! ### what is drawn -/
theorem word_fits {l : List Nat} (h : ∀ c ∈ l, c ∈ LET) : (PyData.str (S l)).leavesShort 13 = true := by
  simp only [PyData.leavesShort]
  rw [List.all_eq_true]
  intro c hc
  have z : ∀ c ∈ LET, c < 16 ^ 8 := by decide +kernel
  exact decide_eq_true (z c (h c hc))
structure Word (l : List Nat) : Prop where
  n : l.length ≤ 8
  s : (PyData.str (S l)).leavesShort 13 = true
abbrev W (l : List Nat) : D := .str (S l)
theorem rok_mk {d : D} (h1 : d.tells = true) (h2 : d.toR.showable = true) (h3 : d.toR.leavesShort 13 = true) (h4 : d.toR.weight ≤ 2 ^ 20) (h5 : d.toR.depth ≤ 60) : d.rok = true := by
  unfold D.rok
  rw [h1, h2, h3, decide_eq_true h4, decide_eq_true h5]
  rfl
abbrev items (l : List Nat) (y : Int) : List D := [.non, .bl true, .bl false, .int 0, W l, .int (-y), .tup [.str "level", .tup [.str "left", .str "+"], .int 3], .tup [W l, .lst [W l]], .dic [.inr (S l)] [.lst [W l]]]
theorem rok1 {l : List Nat} (h : Word l) : D.rok (W l) = true := by
  refine rok_mk ?_ ?_ ?_ ?_ ?_
  · simp [D.tells, D.tellss]
  · simp [D.toR, D.toRs, keyP, PyData.showable, PyData.showableAll, PyData.showableKv]
  · have hs := h.s
    have e1 : (PyData.str (Str.ofString "later")).leavesShort 13 = true := by decide +kernel
    have e2 : (PyData.str (Str.ofString "_")).leavesShort 13 = true := by decide +kernel
    simp only [D.toR, D.toRs, keyP, List.map_cons, List.map_nil, List.zip_cons_cons, List.zip_nil_left, List.zip_nil_right, PyData.leavesShort.eq_5, PyData.leavesShort.eq_6, PyData.leavesShort.eq_7, PyData.leavesShortAll, PyData.leavesShortKv, hs, e1, e2, Bool.and_true, Bool.and_self]
  · have hn := h.n
    have hz : (S l).cps.size = l.length := by simp
    have e1 : (PyData.str (Str.ofString "later")).weight ≤ 5 := by decide +kernel
    have e2 : (PyData.str (Str.ofString "_")).weight ≤ 5 := by decide +kernel
    have e3 : (PyData.str (S l)).weight ≤ 8 := by
      simp only [PyData.weight]
      rw [hz]; exact hn
    simp only [D.toR, D.toRs, keyP, List.map_cons, List.map_nil, List.zip_cons_cons, List.zip_nil_left, List.zip_nil_right, PyData.weight.eq_2, PyData.weight.eq_3, PyData.weight.eq_4, PyData.weightAll, PyData.weightKv]
    omega
  · simp [D.toR, D.toRs, keyP, PyData.depth, PyData.depthAll, PyData.depthKv]
theorem rok2 {l : List Nat} (h : Word l) : D.rok (D.tup [W l, .lst [W l]]) = true := by
  refine rok_mk ?_ ?_ ?_ ?_ ?_
  · simp [D.tells, D.tellss]
  · simp [D.toR, D.toRs, keyP, PyData.showable, PyData.showableAll, PyData.showableKv]
  · have hs := h.s
    have e1 : (PyData.str (Str.ofString "later")).leavesShort 13 = true := by decide +kernel
    have e2 : (PyData.str (Str.ofString "_")).leavesShort 13 = true := by decide +kernel
    simp only [D.toR, D.toRs, keyP, List.map_cons, List.map_nil, List.zip_cons_cons, List.zip_nil_left, List.zip_nil_right, PyData.leavesShort.eq_5, PyData.leavesShort.eq_6, PyData.leavesShort.eq_7, PyData.leavesShortAll, PyData.leavesShortKv, hs, e1, e2, Bool.and_true, Bool.and_self]
  · have hn := h.n
    have hz : (S l).cps.size = l.length := by simp
    have e1 : (PyData.str (Str.ofString "later")).weight ≤ 5 := by decide +kernel
    have e2 : (PyData.str (Str.ofString "_")).weight ≤ 5 := by decide +kernel
    have e3 : (PyData.str (S l)).weight ≤ 8 := by
      simp only [PyData.weight]
      rw [hz]; exact hn
    simp only [D.toR, D.toRs, keyP, List.map_cons, List.map_nil, List.zip_cons_cons, List.zip_nil_left, List.zip_nil_right, PyData.weight.eq_2, PyData.weight.eq_3, PyData.weight.eq_4, PyData.weightAll, PyData.weightKv]
    omega
  · simp [D.toR, D.toRs, keyP, PyData.depth, PyData.depthAll, PyData.depthKv]
theorem rok3 {l : List Nat} (h : Word l) : D.rok (D.dic [.inr (S l)] [.lst [W l]]) = true := by
  refine rok_mk ?_ ?_ ?_ ?_ ?_
  · simp [D.tells, D.tellss]
  · simp [D.toR, D.toRs, keyP, PyData.showable, PyData.showableAll, PyData.showableKv]
  · have hs := h.s
    have e1 : (PyData.str (Str.ofString "later")).leavesShort 13 = true := by decide +kernel
    have e2 : (PyData.str (Str.ofString "_")).leavesShort 13 = true := by decide +kernel
    simp only [D.toR, D.toRs, keyP, List.map_cons, List.map_nil, List.zip_cons_cons, List.zip_nil_left, List.zip_nil_right, PyData.leavesShort.eq_5, PyData.leavesShort.eq_6, PyData.leavesShort.eq_7, PyData.leavesShortAll, PyData.leavesShortKv, hs, e1, e2, Bool.and_true, Bool.and_self]
  · have hn := h.n
    have hz : (S l).cps.size = l.length := by simp
    have e1 : (PyData.str (Str.ofString "later")).weight ≤ 5 := by decide +kernel
    have e2 : (PyData.str (Str.ofString "_")).weight ≤ 5 := by decide +kernel
    have e3 : (PyData.str (S l)).weight ≤ 8 := by
      simp only [PyData.weight]
      rw [hz]; exact hn
    simp only [D.toR, D.toRs, keyP, List.map_cons, List.map_nil, List.zip_cons_cons, List.zip_nil_left, List.zip_nil_right, PyData.weight.eq_2, PyData.weight.eq_3, PyData.weight.eq_4, PyData.weightAll, PyData.weightKv]
    omega
  · simp [D.toR, D.toRs, keyP, PyData.depth, PyData.depthAll, PyData.depthKv]
theorem rok4 {l : List Nat} (h : Word l) : D.rok (D.lst [W l]) = true := by
  refine rok_mk ?_ ?_ ?_ ?_ ?_
  · simp [D.tells, D.tellss]
  · simp [D.toR, D.toRs, keyP, PyData.showable, PyData.showableAll, PyData.showableKv]
  · have hs := h.s
    have e1 : (PyData.str (Str.ofString "later")).leavesShort 13 = true := by decide +kernel
    have e2 : (PyData.str (Str.ofString "_")).leavesShort 13 = true := by decide +kernel
    simp only [D.toR, D.toRs, keyP, List.map_cons, List.map_nil, List.zip_cons_cons, List.zip_nil_left, List.zip_nil_right, PyData.leavesShort.eq_5, PyData.leavesShort.eq_6, PyData.leavesShort.eq_7, PyData.leavesShortAll, PyData.leavesShortKv, hs, e1, e2, Bool.and_true, Bool.and_self]
  · have hn := h.n
    have hz : (S l).cps.size = l.length := by simp
    have e1 : (PyData.str (Str.ofString "later")).weight ≤ 5 := by decide +kernel
    have e2 : (PyData.str (Str.ofString "_")).weight ≤ 5 := by decide +kernel
    have e3 : (PyData.str (S l)).weight ≤ 8 := by
      simp only [PyData.weight]
      rw [hz]; exact hn
    simp only [D.toR, D.toRs, keyP, List.map_cons, List.map_nil, List.zip_cons_cons, List.zip_nil_left, List.zip_nil_right, PyData.weight.eq_2, PyData.weight.eq_3, PyData.weight.eq_4, PyData.weightAll, PyData.weightKv]
    omega
  · simp [D.toR, D.toRs, keyP, PyData.depth, PyData.depthAll, PyData.depthKv]
theorem rok5 {l : List Nat} (h : Word l) : D.rok (D.lst [.lst [W l], .dic [.inr "_"] [W l]]) = true := by
  refine rok_mk ?_ ?_ ?_ ?_ ?_
  · simp [D.tells, D.tellss]
  · simp [D.toR, D.toRs, keyP, PyData.showable, PyData.showableAll, PyData.showableKv]
  · have hs := h.s
    have e1 : (PyData.str (Str.ofString "later")).leavesShort 13 = true := by decide +kernel
    have e2 : (PyData.str (Str.ofString "_")).leavesShort 13 = true := by decide +kernel
    simp only [D.toR, D.toRs, keyP, List.map_cons, List.map_nil, List.zip_cons_cons, List.zip_nil_left, List.zip_nil_right, PyData.leavesShort.eq_5, PyData.leavesShort.eq_6, PyData.leavesShort.eq_7, PyData.leavesShortAll, PyData.leavesShortKv, hs, e1, e2, Bool.and_true, Bool.and_self]
  · have hn := h.n
    have hz : (S l).cps.size = l.length := by simp
    have e1 : (PyData.str (Str.ofString "later")).weight ≤ 5 := by decide +kernel
    have e2 : (PyData.str (Str.ofString "_")).weight ≤ 5 := by decide +kernel
    have e3 : (PyData.str (S l)).weight ≤ 8 := by
      simp only [PyData.weight]
      rw [hz]; exact hn
    simp only [D.toR, D.toRs, keyP, List.map_cons, List.map_nil, List.zip_cons_cons, List.zip_nil_left, List.zip_nil_right, PyData.weight.eq_2, PyData.weight.eq_3, PyData.weight.eq_4, PyData.weightAll, PyData.weightKv]
    omega
  · simp [D.toR, D.toRs, keyP, PyData.depth, PyData.depthAll, PyData.depthKv]
theorem rok6 {l : List Nat} (h : Word l) : D.rok (D.lst [W l, .str "later"]) = true := by
  refine rok_mk ?_ ?_ ?_ ?_ ?_
  · simp [D.tells, D.tellss]
  · simp [D.toR, D.toRs, keyP, PyData.showable, PyData.showableAll, PyData.showableKv]
  · have hs := h.s
    have e1 : (PyData.str (Str.ofString "later")).leavesShort 13 = true := by decide +kernel
    have e2 : (PyData.str (Str.ofString "_")).leavesShort 13 = true := by decide +kernel
    simp only [D.toR, D.toRs, keyP, List.map_cons, List.map_nil, List.zip_cons_cons, List.zip_nil_left, List.zip_nil_right, PyData.leavesShort.eq_5, PyData.leavesShort.eq_6, PyData.leavesShort.eq_7, PyData.leavesShortAll, PyData.leavesShortKv, hs, e1, e2, Bool.and_true, Bool.and_self]
  · have hn := h.n
    have hz : (S l).cps.size = l.length := by simp
    have e1 : (PyData.str (Str.ofString "later")).weight ≤ 5 := by decide +kernel
    have e2 : (PyData.str (Str.ofString "_")).weight ≤ 5 := by decide +kernel
    have e3 : (PyData.str (S l)).weight ≤ 8 := by
      simp only [PyData.weight]
      rw [hz]; exact hn
    simp only [D.toR, D.toRs, keyP, List.map_cons, List.map_nil, List.zip_cons_cons, List.zip_nil_left, List.zip_nil_right, PyData.weight.eq_2, PyData.weight.eq_3, PyData.weight.eq_4, PyData.weightAll, PyData.weightKv]
    omega
  · simp [D.toR, D.toRs, keyP, PyData.depth, PyData.depthAll, PyData.depthKv]
theorem rok7 {l : List Nat} (h : Word l) : D.rok (D.lst [.lst [W l], .dic [.inr "_"] [W l], .str "later"]) = true := by
  refine rok_mk ?_ ?_ ?_ ?_ ?_
  · simp [D.tells, D.tellss]
  · simp [D.toR, D.toRs, keyP, PyData.showable, PyData.showableAll, PyData.showableKv]
  · have hs := h.s
    have e1 : (PyData.str (Str.ofString "later")).leavesShort 13 = true := by decide +kernel
    have e2 : (PyData.str (Str.ofString "_")).leavesShort 13 = true := by decide +kernel
    simp only [D.toR, D.toRs, keyP, List.map_cons, List.map_nil, List.zip_cons_cons, List.zip_nil_left, List.zip_nil_right, PyData.leavesShort.eq_5, PyData.leavesShort.eq_6, PyData.leavesShort.eq_7, PyData.leavesShortAll, PyData.leavesShortKv, hs, e1, e2, Bool.and_true, Bool.and_self]
  · have hn := h.n
    have hz : (S l).cps.size = l.length := by simp
    have e1 : (PyData.str (Str.ofString "later")).weight ≤ 5 := by decide +kernel
    have e2 : (PyData.str (Str.ofString "_")).weight ≤ 5 := by decide +kernel
    have e3 : (PyData.str (S l)).weight ≤ 8 := by
      simp only [PyData.weight]
      rw [hz]; exact hn
    simp only [D.toR, D.toRs, keyP, List.map_cons, List.map_nil, List.zip_cons_cons, List.zip_nil_left, List.zip_nil_right, PyData.weight.eq_2, PyData.weight.eq_3, PyData.weight.eq_4, PyData.weightAll, PyData.weightKv]
    omega
  · simp [D.toR, D.toRs, keyP, PyData.depth, PyData.depthAll, PyData.depthKv]
theorem rok8 {l : List Nat} (h : Word l) : D.rok (D.tup [.str "later", W l]) = true := by
  refine rok_mk ?_ ?_ ?_ ?_ ?_
  · simp [D.tells, D.tellss]
  · simp [D.toR, D.toRs, keyP, PyData.showable, PyData.showableAll, PyData.showableKv]
  · have hs := h.s
    have e1 : (PyData.str (Str.ofString "later")).leavesShort 13 = true := by decide +kernel
    have e2 : (PyData.str (Str.ofString "_")).leavesShort 13 = true := by decide +kernel
    simp only [D.toR, D.toRs, keyP, List.map_cons, List.map_nil, List.zip_cons_cons, List.zip_nil_left, List.zip_nil_right, PyData.leavesShort.eq_5, PyData.leavesShort.eq_6, PyData.leavesShort.eq_7, PyData.leavesShortAll, PyData.leavesShortKv, hs, e1, e2, Bool.and_true, Bool.and_self]
  · have hn := h.n
    have hz : (S l).cps.size = l.length := by simp
    have e1 : (PyData.str (Str.ofString "later")).weight ≤ 5 := by decide +kernel
    have e2 : (PyData.str (Str.ofString "_")).weight ≤ 5 := by decide +kernel
    have e3 : (PyData.str (S l)).weight ≤ 8 := by
      simp only [PyData.weight]
      rw [hz]; exact hn
    simp only [D.toR, D.toRs, keyP, List.map_cons, List.map_nil, List.zip_cons_cons, List.zip_nil_left, List.zip_nil_right, PyData.weight.eq_2, PyData.weight.eq_3, PyData.weight.eq_4, PyData.weightAll, PyData.weightKv]
    omega
  · simp [D.toR, D.toRs, keyP, PyData.depth, PyData.depthAll, PyData.depthKv]
theorem log_small {n : Nat} (h : n < 2147483648) : n.log2 < 31 := by
  by_cases z : n = 0
  · subst z
    decide
  · exact (Nat.log2_lt z).mpr (by simpa using h)
theorem rok_int {n : Int} (h : n.natAbs < 2147483648) : D.rok (.int n) = true := by
  have z := log_small h
  refine rok_mk rfl ?_ ?_ ?_ ?_
  · simp only [D.toR, PyData.showable]
    exact decide_eq_true (by omega)
  · simp only [D.toR, PyData.leavesShort]
    exact decide_eq_true (PyData.shown_int_le (by omega))
  · simp only [D.toR, PyData.weight]
    split <;> omega
  · simp [D.toR, PyData.depth]
theorem items_ok {l : List Nat} {y : Int} (h : Word l) (hy : 0 ≤ y ∧ y < 2147483648) : ∀ d ∈ items l y, d.rok = true ∧ d.isList = false ∧ d.noIns = true := by
  intro d hd
  simp only [items, List.mem_cons, List.not_mem_nil, or_false] at hd
  rcases hd with rfl | rfl | rfl | rfl | rfl | rfl | rfl | rfl | rfl
  · exact ⟨by decide +kernel, rfl, rfl⟩
  · exact ⟨by decide +kernel, rfl, rfl⟩
  · exact ⟨by decide +kernel, rfl, rfl⟩
  · exact ⟨rok_int (by decide), rfl, rfl⟩
  · exact ⟨rok1 h, rfl, rfl⟩
  · exact ⟨rok_int (by omega), rfl, rfl⟩
  · exact ⟨by decide +kernel, rfl, rfl⟩
  · exact ⟨rok2 h, rfl, rfl⟩
  · exact ⟨rok3 h, rfl, rfl⟩
theorem rok_non : D.rok .non = true := by decide +kernel
theorem text_non : D.text .non = Str.ofString "None" := PyData.shown_none
/-- each error's field, seen with its content -/
theorem errs_up {F : Hp} {a : Addr} {d d' : D} (up : ∀ u, Rp F u d → Rp F u d') : ∀ {vs : List V} (n : List Nat), RpA F vs (n.map fun i => .err (cl K i) d) → RpA F vs (n.map fun i => .err (cl K i) d')
  | _, [], .nil => .nil
  | _, i :: n, .cons r rs => by
    refine .cons ?_ (errs_up (a := a) up n rs)
    cases r with
    | err h1 h2 r => exact .err h1 h2 (up _ r)
theorem see_errs {a : Addr} {ds : List D} : ∀ (F : Hp) (v : V), Rp F (.ref a) (.lst ds) → Rp F v (.lst (errs K (.fz none a))) → Rp F v (.lst (errs K (.is a (.lst ds)))) := fun F v ra rv => by
  cases rv with
  | lst h r => exact .lst h (errs_up (a := a) (fun u ru => by
      cases ru with
      | fz _ => exact .is ra) (List.range 33) r)
end
end K1
namespace K1
open PySem L2 Kr
local macro_rules | `(tactic| one_item) => `(tactic| first
  | (with_reducible refine dS_seq ?_) | (with_reducible refine dS_ret ?_) | (with_reducible refine dS_if ?_) | (with_reducible refine dS_next ?_) | (with_reducible refine dS_nextE ?_) | (with_reducible refine dS_brkE ?_) | (with_reducible refine dS_ctE ?_)
  | (with_reducible refine dT_B ?_) | (with_reducible refine dT_test ?_) | (with_reducible refine dT_and ?_) | (with_reducible refine dT_or ?_) | (with_reducible refine dT_not ?_)
  | (with_reducible refine dE_and ?_) | (with_reducible refine dE_or ?_) | (with_reducible refine dE_not ?_) | (with_reducible refine dE_if ?_)
  | (with_reducible refine dE_int ?_) | (with_reducible refine dE_str ?_) | (with_reducible refine dE_bl ?_) | (with_reducible refine dE_non ?_)
  | ((with_reducible refine dE_varE ?_); refine ⟨_, rfl, ?_⟩) | ((with_reducible refine dE_ownE ?_); refine ⟨_, rfl, ?_⟩)
  | (with_reducible refine dE_ix ?_) | (with_reducible refine dE_op2 ?_) | (with_reducible refine dE_chain ?_) | (with_reducible refine dE_un ?_) | (with_reducible refine dA_cons ?_) | (with_reducible refine dA_nil ?_) | (with_reducible refine dE_callF ?_) | (with_reducible refine dE_tup ?_)
  | (refine ⟨fun (_ : true = true) => ?_, fun z => Bool.noConfusion z⟩) | (refine ⟨fun z => Bool.noConfusion z, fun (_ : false = false) => ?_⟩)
  | (with_reducible refine dE_callP (i := 0) rfl ?_)
  | (with_reducible refine dE_isStr ?_) | (with_reducible refine dE_isInt ?_) | (with_reducible refine dE_isBool ?_) | (with_reducible refine dE_isList ?_) | (with_reducible refine dE_isTup ?_) | (with_reducible refine dE_isDict ?_) | (with_reducible refine dE_cb ?_) | (with_reducible refine dE_lc ?_) | (with_reducible refine dE_lstF ?_) | (with_reducible refine dI_list ?_) | (with_reducible refine dI_tup ?_) | (with_reducible refine dI_str ?_) | (with_reducible refine dI_rng1 ?_) | (with_reducible refine dI_rng2 ?_) | (with_reducible refine dS_set ?_) | (with_reducible refine dS_augI ?_) | (with_reducible refine dS_brk ?_) | (with_reducible refine dS_ct ?_) | (with_reducible refine dO_none ?_) | (with_reducible refine dO_some ?_))
local macro_rules | `(tactic| one_place) => `(tactic| (repeat' one_item))
section
variable {P : Program} {w : World} {K : PySem.W.Frag} {mg : Str → Option Value} {base : Heap}
/-! ### the law -/
abbrev sp_law (K : PySem.W.Frag) : Sp := spD (fun ds => ∃ (d : D) (ns : List Int), ds = [d] ∧ ScrD K d ns) (fun _ r => r = .bl true)
theorem ok_law (T : Txt K mg) (TC : Cl P K mg) (c__law_purses : Con P w K mg base "_law_purses" p__law_purses 3 (sp_purses K)) (c__law_word : Con P w K mg base "_law_word" p__law_word 4 sp_word) (c__law_one_of : Con P w K mg base "_law_one_of" p__law_one_of 4 sp_one_of)
    (c__law_first : Con P w K mg base "_law_first" p__law_first 1 (sp_first K)) (c__law_called : Con P w K mg base "_law_called" p__law_called 1 (sp_first K)) (c__law_bare : Con P w K mg base "_law_bare" p__law_bare 1 (sp_bare K)) (c__law_code : Con P w K mg base "_law_code" p__law_code 1 (sp_code K)) (c__law_is_error : Con P w K mg base "_law_is_error" p__law_is_error 1 (sp_is_error K))
    (cg__law_right : ConG P w K mg base "_law_right" p__law_right 2 (sp_right K)) {f : Addr} {fd : FuncData} (F : Fun K "law" "law" s_law f fd) : FnOkG P w K mg base 5 f fd p_law (sp_law K) := by
  refine fnDG F sc_law (fun ds h => ?_) (fun f cdv A outer s H E hr free => ⟨_, (pss_cons (ps_for PassesOwn.never rfl (pi_list (pe_con c__law_purses (hr.mono (by decide)) (by rfl) (pa_cons (pv 0) (pa_cons pe_int pa_nil)))) (pg_name (i := 1) sc_law.nd rfl (.inl rfl)) (pss_cons (ps_set (i := 2) sc_law.nd rfl (.inl rfl) (pe_con c__law_word (hr.mono (by decide)) (by rfl) (pa_cons (pv 1) pa_nil)))
      (pss_cons (ps_set (i := 3) sc_law.nd rfl (.inl rfl) (pe_lst (pa_cons pe_non (pa_cons pe_bl (pa_cons pe_bl (pa_cons pe_int (pa_cons (pv 2) (pa_cons (pe_un un_neg (pe_ix ix_seq (pv 1) pe_int (fun _ _ => rfl))) (pa_cons (pe_tup (pa_cons pe_str (pa_cons (pe_tup (pa_cons pe_str (pa_cons pe_str pa_nil))) (pa_cons pe_int pa_nil)))) (pa_cons (pe_tup (pa_cons (pv 2) (pa_cons (pe_lst (pa_cons (pv 2) pa_nil)) pa_nil))) (pa_cons (pe_disp (pps_cons (pv 2) (pe_lst (pa_cons (pv 2) pa_nil)) pps_nil) rfl rfl (by decide) (by decide)) pa_nil)))))))))))
      (pss_cons (ps_set (i := 4) sc_law.nd rfl (.inl rfl) (pe_con c__law_one_of (hr.mono (by decide)) (by rfl) (pa_cons (pv 1) (pa_cons (pe_op op_addA (pv 3) (pe_lst (pa_cons (pe_lst (pa_cons (pv 2) pa_nil)) (pa_cons (pe_lst (pa_cons (pe_lst (pa_cons (pv 2) pa_nil)) (pa_cons (pe_disp (pps_cons pe_str (pv 2) pps_nil) rfl rfl (by decide) (by decide)) pa_nil))) pa_nil)))) pa_nil))))
      (pss_cons (ps_set (i := 5) sc_law.nd rfl (.inl rfl) (pe_callB (show CallR _ (.builtin "repr") rRepr from call_repr free (units65 hr) TC.sys) (by rfl) T.n_repr (by decide +kernel) (pa_cons (pv 4) pa_nil)))
      (pss_cons (ps_par3 (i := 6) (j := 7) (l := 8) rfl sc_law.nd rfl rfl rfl (by decide) (by decide) (by decide) rfl rfl rfl (pa_cons (pe_con c__law_first (hr.mono (by decide)) (by rfl) (pa_cons (pv 4) pa_nil)) (pa_cons (pe_con c__law_called (hr.mono (by decide)) (by rfl) (pa_cons (pv 4) pa_nil)) (pa_cons (pe_con c__law_first (hr.mono (by decide)) (by rfl) (pa_cons (pe_tup (pa_cons pe_str (pa_cons (pv 2) pa_nil))) pa_nil)) pa_nil))) rfl)
      (pss_cons (ps_if (PW.pt (pw_or (pt_not (pt_val (pe_conG cg__law_right free (hr.mono (by decide)) (by rfl) (pa_cons (pe_con0 c__law_bare (hr.mono (by decide)) (by rfl)) (pa_cons pe_str pa_nil))))) (pw_or1 (pt_not (pt_val (pe_conG cg__law_right free (hr.mono (by decide)) (by rfl) (pa_cons (pv 8) (pa_cons (pe_callB (show CallR _ (.builtin "repr") rRepr from call_repr free (units65 hr) TC.sys) (by rfl) T.n_repr (by decide +kernel) (pa_cons (pe_tup (pa_cons pe_str (pa_cons (pv 2) pa_nil))) pa_nil)) pa_nil)))))))) (pss_one (ps_ret pe_bl)) pss_nil)
      (pss_cons (ps_if (PW.pt (pw_or (pt_not (pt_val (pe_conG cg__law_right free (hr.mono (by decide)) (by rfl) (pa_cons (pv 6) (pa_cons (pv 5) pa_nil))))) (pw_or1 (pt_not (pt_val (pe_conG cg__law_right free (hr.mono (by decide)) (by rfl) (pa_cons (pv 7) (pa_cons (pv 5) pa_nil)))))))) (pss_one (ps_ret pe_bl)) pss_nil)
      (pss_one (ps_if (pt_val (pe_callB call_isi (by rfl) T.n_isinstance (by decide +kernel) (pa_cons (pv 4) (pa_cons (pe_bltn (v := .ty "list") (by rfl) T.n_list (by decide +kernel) rfl) pa_nil)))) (pss_cons (ps_expr (pe_bm PySem.F.plainAttrs_list PySem.F.slot_list_append PySem.F.type_list_append mt_append (pv 4) (pa_cons pe_str pa_nil)))
      (pss_one (ps_if (PW.pt (pw_or (pt_not (pt_val (pe_conG cg__law_right free (hr.mono (by decide)) (by rfl) (pa_cons (pv 6) (pa_cons (pe_callB (show CallR _ (.builtin "repr") rRepr from call_repr free (units65 hr) TC.sys) (by rfl) T.n_repr (by decide +kernel) (pa_cons (pv 4) pa_nil)) pa_nil))))) (pw_or1 (pt_not (pt_val (pe_conG cg__law_right free (hr.mono (by decide)) (by rfl) (pa_cons (pv 7) (pa_cons (pe_callB (show CallR _ (.builtin "repr") rRepr from call_repr free (units65 hr) TC.sys) (by rfl) T.n_repr (by decide +kernel) (pa_cons (pv 4) pa_nil)) pa_nil)))))))) (pss_one (ps_ret pe_bl)) pss_nil))) pss_nil))))))))))
      (pss_cons (ps_if (pt_not (pt_val (pe_conG cg__law_right free (hr.mono (by decide)) (by rfl) (pa_cons (pe_con0 c__law_bare (hr.mono (by decide)) (by rfl)) (pa_cons pe_str pa_nil))))) (pss_one (ps_ret pe_bl)) pss_nil)
      (pss_cons (ps_set (i := 9) sc_law.nd rfl (.inl rfl) (pe_lst (pa_cons (pe_ex0 (C := cl K 33) PySem.F.excBase_ValueError (TC.exc 33 (by decide) (by decide)) (show mg "NothingToUndo" = some (.ref (cl K 33)) from TC.gl 33 (by decide)) (TC.kp 33 (by decide) (by decide)) (by rfl)) (pa_cons (pe_ex0 (C := cl K 34) PySem.F.excBase_ValueError (TC.exc 34 (by decide) (by decide)) (show mg "NothingToRedo" = some (.ref (cl K 34)) from TC.gl 34 (by decide)) (TC.kp 34 (by decide) (by decide)) (by rfl)) pa_nil))))
      (pss_cons (ps_if (pt_cmpR (op_neA hr.units) (pe_lc (own := [("_law_error", 10)]) rfl sc_law.nd (pi_list (pv 9)) (blkOk_by (own := [("_law_error", 10)]) (N := n_law) (sc := defScope s_law) (by decide +kernel)) (fun _ _ _ _ _ => (pg_name (i := 10) sc_law.nd rfl (Or.inl rfl))) (fun _ _ _ _ _ => pts_nil) (fun _ _ _ _ _ => (pe_con c__law_code (hr.mono (by decide)) (by rfl) (pa_cons (pv 10) pa_nil)))) (pe_lst (pa_cons (pe_lst (pa_cons pe_int pa_nil)) (pa_cons (pe_lst (pa_cons pe_int pa_nil)) pa_nil))) (nomark _)) (pss_one (ps_ret pe_bl)) pss_nil)
      (pss_cons (ps_expr (pe_bm PySem.F.plainAttrs_list PySem.F.slot_list_append PySem.F.type_list_append mt_append (pv 9) (pa_cons (pe_ex0 (C := cl K 35) PySem.F.excBase_ValueError (TC.exc 35 (by decide) (by decide)) (show mg "TongueError" = some (.ref (cl K 35)) from TC.gl 35 (by decide)) (TC.kp 35 (by decide) (by decide)) (by rfl)) pa_nil)))
      (pss_one (ps_ret (pe_and (pe_callB (cr_all rfl) (by rfl) T.n_all (by decide +kernel) (pa_cons (pe_lc (own := [("_law_error", 10)]) rfl sc_law.nd (pi_list (pv 9)) (blkOk_by (own := [("_law_error", 10)]) (N := n_law) (sc := defScope s_law) (by decide +kernel)) (fun _ _ _ _ _ => (pg_name (i := 10) sc_law.nd rfl (Or.inl rfl))) (fun _ _ _ _ _ => pts_nil) (fun _ _ _ _ _ => (pe_con c__law_is_error (hr.mono (by decide)) (by rfl) (pa_cons (pv 10) pa_nil)))) pa_nil)) (pe_one (pe_cmpR (op_eqA hr.units) (pe_con c__law_code (hr.mono (by decide)) (by rfl) (pa_cons (pe_ix ix_seq (pv 9) pe_int (fun _ _ => rfl)) pa_nil)) (pe_lst pa_nil) (nomark _))))))))))), fun ds h => ?_⟩)
  · obtain ⟨d, ns, rfl, _⟩ := h
    rfl
  · obtain ⟨d0, ns, rfl, hd0⟩ := h
    refine dS_seq (dS_forPs (fun s hs => ?_) rfl (dA_cons (dE_varE ⟨_, rfl, dA_cons (dE_int (dA_nil ⟨⟨d0, ns, 3, rfl, hd0, by decide⟩, rfl⟩))⟩)) (fun p => ?_) ?_)
    · have hs : s ∈ [Sl.imm d0, .any, .any, .any, .any, .any, .any, .any, .any, .any, .any] := hs
      simp only [List.mem_cons, List.not_mem_nil, or_false] at hs
      rcases hs with rfl | rfl | rfl | rfl | rfl | rfl | rfl | rfl | rfl | rfl | rfl <;> rfl
    · refine dS_nxany 2 (dS_nxany 3 (dS_nxany 4 (dS_nxany 5 (dS_nxany 6 (dS_nxany 7 (dS_nxany 8 ?_))))))
      refine dS_seq (dS_set (dE_callP (p := p) (n := 0) (i := 1) rfl (dA_nil ⟨0, rfl, rfl, by decide, fun d ⟨l, e, h1, h2, h3⟩ => ?_⟩)))
      subst e
      have hw : Word l := ⟨h2, word_fits h3⟩
      refine dS_seq (dS_set (dE_lst ?_))
      refine dA_cons (dE_non ?_)
      refine dA_cons (dE_bl ?_)
      refine dA_cons (dE_bl ?_)
      refine dA_cons (dE_int ?_)
      refine dA_cons (dE_var rfl ?_)
      refine dA_cons (dE_un (dE_pur (j := 1) rfl (by decide) fun y hy => ⟨_, od_neg, ?_⟩))
      refine dA_cons (dE_tup ?_)
      refine dA_cons (dE_str ?_)
      refine dA_cons (dE_tup ?_)
      refine dA_cons (dE_str ?_)
      refine dA_cons (dE_str ?_)
      refine dA_nil ⟨Nat.le_of_ble_eq_true rfl, ?_⟩
      refine dA_cons (dE_int ?_)
      refine dA_nil ⟨Nat.le_of_ble_eq_true rfl, ?_⟩
      refine dA_cons (dE_tup ?_)
      refine dA_cons (dE_var rfl ?_)
      refine dA_cons (dE_lst ?_)
      refine dA_cons (dE_var rfl ?_)
      refine dA_nil ⟨Nat.le_of_ble_eq_true rfl, ?_⟩
      refine dA_nil ⟨Nat.le_of_ble_eq_true rfl, ?_⟩
      refine dA_cons (dE_dispG (dE_var rfl ⟨_, rfl, ?_⟩))
      refine dE_lst ?_
      refine dA_cons (dE_var rfl ?_)
      refine dA_nil ⟨Nat.le_of_ble_eq_true rfl, ?_⟩
      refine dA_nil ⟨Nat.le_of_ble_eq_true rfl, ?_⟩
      have hy : 0 ≤ y ∧ y < 2147483648 := hy
      show dS E0 (fun _ _ => False) _ [.imm d0, .pur p 10, .imm (W l), .imm (.lst (items l y)), .any, .any, .any, .any, .any, .any, .any] _
      refine dS_seq (dS_drawO (pl := items l y) (ds1 := [W l]) (ds2 := [.lst [W l], .dic [.inr "_"] [W l]]) rfl rfl (by decide) ?h1 ?h2 (Nat.le_of_ble_eq_true rfl) (Nat.le_of_ble_eq_true rfl) (Nat.le_of_ble_eq_true rfl) (by decide) (fun m hm => ⟨m, rfl, by rw [hm]; exact (by decide : 1 ≤ 11), by rw [hm]; exact (by decide : 11 ≤ 1000)⟩) (fun m e he => he m rfl) (fun d hd => ?qa) (fun a ds hds => ?qb))
      case h1 => exact dA_cons (dE_var rfl (dA_nil ⟨rfl, rfl⟩))
      case h2 =>
        refine dA_cons (dE_lst ?_)
        refine dA_cons (dE_var rfl ?_)
        refine dA_nil ⟨Nat.le_of_ble_eq_true rfl, ?_⟩
        refine dA_cons (dE_dispG (dE_str ⟨_, rfl, ?_⟩))
        refine dE_var rfl ?_
        exact dA_nil ⟨rfl, rfl⟩
      case qa =>
        obtain ⟨k1, k2, k3⟩ := items_ok hw hy d hd
        show dS E0 (fun _ _ => False) _ [.imm d0, .pur p 11, .imm (W l), .imm (.lst (items l y)), .imm d, .any, .any, .any, .any, .any, .any] _
        refine dS_seq (dS_set (dE_repr (dE_var rfl ⟨k1, ?_⟩)))
        refine dS_seq (dS_par3 ?_)
        refine dE_callF (dA_cons (dE_var rfl (dA_nil ⟨⟨_, rfl⟩, ?_⟩)))
        refine dE_callF (dA_cons (dE_var rfl (dA_nil ⟨⟨_, rfl⟩, ?_⟩)))
        refine dE_callF (dA_cons (dE_tup ?_))
        refine dA_cons (dE_str ?_)
        refine dA_cons (dE_var rfl ?_)
        refine dA_nil ⟨Nat.le_of_ble_eq_true rfl, dA_nil ⟨⟨_, rfl⟩, ?_⟩⟩
        show dS E0 (fun _ _ => False) _ [.imm d0, .pur p 11, .imm (W l), .imm (.lst (items l y)), .imm d, .imm (.str d.text), .imm (.lst (errs K d)), .imm (.lst (errs K d)), .imm (.lst (errs K (.tup [.str "later", W l]))), .any, .any] _
        refine dS_seq (dS_if (dT_or (dT_not (dT_B ?_))))
        refine dE_call (dA_cons ?_)
        refine dE_callF (dA_nil ⟨rfl, ?_⟩)
        refine dA_cons ?_
        refine dE_str ?_
        refine dA_nil ⟨⟨.non, by rw [text_non], rok_non⟩, fun e he => ?_⟩
        subst he
        refine ⟨true, rfl, fun z => Bool.noConfusion z, fun _ => dT_not (dT_B ?_)⟩
        refine dE_call (dA_cons ?_)
        refine dE_var rfl ?_
        refine dA_cons ?_
        refine dE_repr (dE_tup ?_)
        refine dA_cons (dE_str ?_)
        refine dA_cons (dE_var rfl ?_)
        refine dA_nil ⟨Nat.le_of_ble_eq_true rfl, rok8 hw, ?_⟩
        refine dA_nil ⟨⟨.tup [.str "later", W l], rfl, rok8 hw⟩, fun e he => ?_⟩
        subst he
        refine ⟨true, rfl, fun z => Bool.noConfusion z, fun _ => dS_nextE ?_⟩
        refine dS_seq (dS_if (dT_or (dT_not (dT_B ?_))))
        refine dE_call (dA_cons ?_)
        refine dE_var rfl ?_
        refine dA_cons ?_
        refine dE_var rfl ?_
        refine dA_nil ⟨⟨d, rfl, k1⟩, fun e he => ?_⟩
        subst he
        refine ⟨true, rfl, fun z => Bool.noConfusion z, fun _ => dT_not (dT_B ?_)⟩
        refine dE_call (dA_cons ?_)
        refine dE_var rfl ?_
        refine dA_cons ?_
        refine dE_var rfl ?_
        refine dA_nil ⟨⟨d, rfl, k1⟩, fun e he => ?_⟩
        subst he
        refine ⟨true, rfl, fun z => Bool.noConfusion z, fun _ => dS_nextE ?_⟩
        refine dS_if (dT_test (dE_isList (dE_var rfl ⟨k3, d.isList, rfl, fun z => ?_, fun _ => dS_nextE ?_⟩)))
        · rw [k2] at z
          cases z
        · exact ⟨11, rfl⟩
      case qb =>
        have hk : D.rok (.lst ds) = true ∧ D.rok (.lst (ds ++ [.str "later"])) = true ∧ ds.length < 1000000 := by
          rcases hds with rfl | rfl
          · exact ⟨rok4 hw, rok6 hw, by simp⟩
          · exact ⟨rok5 hw, rok7 hw, by simp⟩
        obtain ⟨k1, k2, k3⟩ := hk
        show dS E0 (fun _ _ => False) _ [.imm d0, .pur p 11, .imm (W l), .imm (.lst (items l y)), .oat a ds, .any, .any, .any, .any, .any, .any] _
        refine dS_seq (dS_set (dE_repr (dE_oat ⟨k1, ?_⟩ rfl)))
        refine dS_seq (dS_par3 ?_)
        refine dE_callF (dA_cons (dE_oatN (dA_nil ⟨⟨_, rfl⟩, ?_⟩) rfl))
        refine dE_callF (dA_cons (dE_oatN (dA_nil ⟨⟨_, rfl⟩, ?_⟩) rfl))
        refine dE_callF (dA_cons (dE_tup ?_))
        refine dA_cons (dE_str ?_)
        refine dA_cons (dE_var rfl ?_)
        refine dA_nil ⟨Nat.le_of_ble_eq_true rfl, dA_nil ⟨⟨_, rfl⟩, ?_⟩⟩
        show dS E0 (fun _ _ => False) _ [.imm d0, .pur p 11, .imm (W l), .imm (.lst (items l y)), .oat a ds, .imm (.str (D.text (.lst ds))), .imm (.lst (errs K (.fz none a))), .imm (.lst (errs K (.fz none a))), .imm (.lst (errs K (.tup [.str "later", W l]))), .any, .any] _
        refine dS_seq (dS_if (dT_or (dT_not (dT_B ?_))))
        refine dE_call (dA_cons ?_)
        refine dE_callF (dA_nil ⟨rfl, ?_⟩)
        refine dA_cons ?_
        refine dE_str ?_
        refine dA_nil ⟨⟨.non, by rw [text_non], rok_non⟩, fun e he => ?_⟩
        subst he
        refine ⟨true, rfl, fun z => Bool.noConfusion z, fun _ => dT_not (dT_B ?_)⟩
        refine dE_call (dA_cons ?_)
        refine dE_var rfl ?_
        refine dA_cons ?_
        refine dE_repr (dE_tup ?_)
        refine dA_cons (dE_str ?_)
        refine dA_cons (dE_var rfl ?_)
        refine dA_nil ⟨Nat.le_of_ble_eq_true rfl, rok8 hw, ?_⟩
        refine dA_nil ⟨⟨.tup [.str "later", W l], rfl, rok8 hw⟩, fun e he => ?_⟩
        subst he
        refine ⟨true, rfl, fun z => Bool.noConfusion z, fun _ => dS_nextE ?_⟩
        refine dS_seq (dS_if (dT_or (dT_not (dT_B ?_))))
        refine dE_call (dA_cons ?_)
        refine dE_see ?_ rfl (i := 4) rfl see_errs
        refine dA_cons ?_
        refine dE_var rfl ?_
        refine dA_nil ⟨⟨.is a (.lst ds), rfl, k1⟩, fun e he => ?_⟩
        subst he
        refine ⟨true, rfl, fun z => Bool.noConfusion z, fun _ => dT_not (dT_B ?_)⟩
        refine dE_call (dA_cons ?_)
        refine dE_see ?_ rfl (i := 4) rfl see_errs
        refine dA_cons ?_
        refine dE_var rfl ?_
        refine dA_nil ⟨⟨.is a (.lst ds), rfl, k1⟩, fun e he => ?_⟩
        subst he
        refine ⟨true, rfl, fun z => Bool.noConfusion z, fun _ => dS_nextE ?_⟩
        refine dS_if (dT_test (dE_isList (dE_oat ⟨rfl, true, rfl, fun _ => ?_, fun z => Bool.noConfusion z⟩ rfl)))
        refine dS_seq (dS_appendA (d' := .str (Str.ofString "later")) rfl k3 (dE_str ⟨rfl, rfl, ?_⟩))
        refine dS_if (dT_or (dT_not (dT_B ?_)))
        refine dE_call (dA_cons ?_)
        refine dE_see ?_ rfl (i := 4) rfl see_errs
        refine dA_cons ?_
        refine dE_repr (dE_oat ⟨k2, ?_⟩ rfl)
        refine dA_nil ⟨⟨.is a (.lst (ds ++ [D.str (Str.ofString "later")])), rfl, k2⟩, fun e he => ?_⟩
        subst he
        refine ⟨true, rfl, fun z => Bool.noConfusion z, fun _ => dT_not (dT_B ?_)⟩
        refine dE_call (dA_cons ?_)
        refine dE_see ?_ rfl (i := 4) rfl see_errs
        refine dA_cons ?_
        refine dE_repr (dE_oat ⟨k2, ?_⟩ rfl)
        refine dA_nil ⟨⟨.is a (.lst (ds ++ [D.str (Str.ofString "later")])), rfl, k2⟩, fun e he => ?_⟩
        subst he
        refine ⟨true, rfl, fun z => Bool.noConfusion z, fun _ => dS_nextE ?_⟩
        exact ⟨11, rfl⟩
    · show dS E0 (fun _ _ => False) _ [.imm d0, .any, .any, .any, .any, .any, .any, .any, .any, .any, .any] _
      refine dS_seq (dS_if (dT_not (dT_B ?_)))
      refine dE_call (dA_cons ?_)
      refine dE_callF (dA_nil ⟨rfl, ?_⟩)
      refine dA_cons ?_
      refine dE_str ?_
      refine dA_nil ⟨⟨.non, by rw [text_non], rok_non⟩, fun e he => ?_⟩
      subst he
      refine ⟨true, rfl, fun z => Bool.noConfusion z, fun _ => dS_nextE ?_⟩
      refine dS_seq (dS_setL (dL_lst ?_))
      refine dA_cons (dE_ex0 ?_)
      refine dA_cons (dE_ex0 ?_)
      refine dA_nil ⟨Nat.le_of_ble_eq_true rfl, ?_⟩
      show dS E0 (fun _ _ => False) _ [.imm d0, .any, .any, .any, .any, .any, .any, .any, .any, .own [.er0 (cl K 33), .er0 (cl K 34)], .any] _
      refine dS_seq (dS_if (dT_borrow 9 rfl (dT_test (dE_op2 (dE_lc (dL_map (dI_list (dE_var rfl ⟨_, rfl, gcode K, Nat.le_of_ble_eq_true rfl, fun e he => ?_, ?_⟩))))))))
      · have h2 : ∃ i, i < 36 ∧ e.errC = some (cl K i) := by
          simp only [List.mem_cons, List.not_mem_nil, or_false] at he
          rcases he with rfl | rfl
          · exact ⟨33, by decide, rfl⟩
          · exact ⟨34, by decide, rfl⟩
        obtain ⟨i, hi, hc⟩ := h2
        exact dE_callF (dA_cons (dE_var rfl (dA_nil ⟨⟨_, i, rfl, hi, hc⟩, rfl, rfl⟩)))
      rw [List.map_cons, List.map_cons, List.map_nil, gcode_at TC (i := 33) (by decide) rfl, gcode_at TC (i := 34) (by decide) rfl]
      refine dE_lst (dA_cons (dE_lst (dA_cons (dE_int (dA_nil ⟨Nat.le_of_ble_eq_true rfl, ?_⟩)))))
      refine dA_cons (dE_lst (dA_cons (dE_int (dA_nil ⟨Nat.le_of_ble_eq_true rfl, ?_⟩))))
      refine dA_nil ⟨Nat.le_of_ble_eq_true rfl, ?_⟩
      refine ⟨_, od_ne (by decide +kernel) (by decide +kernel), _, rfl, rfl, fun z => ?_, fun _ => dS_nextE ?_⟩
      · exact absurd z (by decide +kernel)
      refine dS_seq (dS_append (dA_cons (dE_ex0 (dA_nil ⟨_, _, rfl, rfl, show 2 < 1000000 from by decide, ?_⟩))) ⟨_, rfl⟩)
      refine dS_freeze 9 rfl ?_
      show dS E0 (fun _ _ => False) _ [.imm d0, .any, .any, .any, .any, .any, .any, .any, .any, .imm (.lst [.er0 (cl K 33), .er0 (cl K 34), .er0 (cl K 35)]), .any] _
      refine dS_ret (dE_and (dE_cb (dA_cons (dE_lc (dL_map (dI_list (dE_var rfl ⟨_, rfl, (fun _ => .bl true), Nat.le_of_ble_eq_true rfl, fun e he => ?_, ?_⟩)))))))
      · have h2 : ∃ i, i < 36 ∧ e.errC = some (cl K i) := by
          simp only [List.mem_cons, List.not_mem_nil, or_false] at he
          rcases he with rfl | rfl | rfl
          · exact ⟨33, by decide, rfl⟩
          · exact ⟨34, by decide, rfl⟩
          · exact ⟨35, by decide, rfl⟩
        obtain ⟨i, hi, hc⟩ := h2
        exact dE_callF (dA_cons (dE_var rfl (dA_nil ⟨⟨_, i, rfl, hi, hc⟩, rfl, rfl⟩)))
      refine dA_nil ⟨_, ca_all (bs := [true, true, true]), _, rfl, fun _ => ?_, fun z => ?_⟩
      · refine dE_op2 (dE_callF (dA_cons (dE_ix (dE_var rfl (dE_int ⟨2, _, rfl, .inl ⟨_, rfl, rfl⟩, ?_⟩)))))
        refine dA_nil ⟨⟨_, 35, rfl, by decide, rfl⟩, ?_⟩
        rw [show g_code K [.er0 (cl K 35)] = .lst [] from gcode_at TC (i := 35) (by decide) rfl]
        refine dE_lst (dA_nil ⟨Nat.le_of_ble_eq_true rfl, ?_⟩)
        refine ⟨_, od_eq (by decide +kernel) (by decide +kernel), ?_⟩
        exact congrArg D.bl (by decide +kernel : D.eq (.lst []) (.lst []) = true)
      · exact absurd z (by decide)
end
end K1
namespace K1
open PySem PySem.Spec PyProof.Rows L2 Kr
section
variable {P : Program} {w : World} {K : PySem.W.Frag} {h : Heap} {mg : Str → Option Value} {base : Heap}
theorem funD_fun {x q : Str} {st : Stmt} {f : Addr} {fd : FuncData} (F : FunD K x q (defArgs st) (defBody st) (defScope st) [] [] f fd) : Fun K x q st f fd := by
  obtain ⟨oc, od, dV, kV, doc, pm, an, cdv, ct, osl, e, lk, hcd, hD, hK⟩ := F.ex
  rcases hD with ⟨_, z⟩ | ⟨z, _⟩
  · subst z
    exact ⟨⟨oc, od, kV, doc, pm, an, cdv, ct, osl, e, lk, hcd⟩, F.kp⟩
  · exact absurd rfl z
theorem def_of {x : Str} {st : Stmt} {ps : List Str} {fd : FuncData} (X : K.In h) (G : h.Ns mainGlobals mg) (F : FunD K x x (defArgs st) (defBody st) (defScope st) [] [] (He.fAd K (x, none)) fd) (g : (He.Fa.glo x).ok K = true)
    (hb : ∀ (kV doc pm : Value) (an : Option Addr) (cdv ct : Value) (us : List Value), us.length = ps.length → bindArgs (PySem.W.fnOf x x (defArgs st) (defBody st) (defScope st) .none kV doc pm an cdv ct) ⟨us, []⟩ = pure (ps.zip us)) : DefAt K mg x st ps :=
  ⟨⟨_, fd, funD_fun F, He.glo_ok X G g, F.bindsN hb⟩⟩
theorem errB_isi {file cn : Str} (c : Kh.errB K file cn = true) : Kh.isiB K (He.ga K cn) = true := by
  obtain ⟨_, c⟩ := He.ba c
  obtain ⟨_, c⟩ := He.ba c
  obtain ⟨_, c⟩ := He.ba c
  obtain ⟨_, c⟩ := He.ba c
  obtain ⟨_, c⟩ := He.ba c
  obtain ⟨_, c⟩ := He.ba c
  obtain ⟨_, c⟩ := He.ba c
  obtain ⟨_, c⟩ := He.ba c
  obtain ⟨_, c⟩ := He.ba c
  obtain ⟨_, c⟩ := He.ba c
  obtain ⟨_, c⟩ := He.ba c
  exact (He.ba c).2
abbrev Sy (K : PySem.W.Frag) : Prop := Kh.SaysH "/claim/cut.py" fa fn es ex K
theorem txt_mk (X : K.In h) (G : h.Ns mainGlobals mg) (c : Sy K) : Txt K mg := by
  obtain ⟨_, F0⟩ := c.d.def_ 0 (d := ld "_law_purse" 38) rfl
  obtain ⟨_, F1⟩ := c.d.def_ 1 (d := ld "_law_mixed" 39) rfl
  obtain ⟨_, F2⟩ := c.d.def_ 2 (d := ld "_law_draw" 40) rfl
  obtain ⟨_, F3⟩ := c.d.def_ 3 (d := ld "_law_purses" 41) rfl
  obtain ⟨_, F4⟩ := c.d.def_ 4 (d := ld "_law_one_of" 42) rfl
  obtain ⟨_, F5⟩ := c.d.def_ 5 (d := ld "_law_word" 43) rfl
  obtain ⟨_, F6⟩ := c.d.def_ 6 (d := ld "_law_first" 44) rfl
  obtain ⟨_, F7⟩ := c.d.def_ 7 (d := ld "_law_called" 45) rfl
  obtain ⟨_, F8⟩ := c.d.def_ 8 (d := ld "_law_bare" 46) rfl
  obtain ⟨_, F9⟩ := c.d.def_ 9 (d := ld "_law_code" 47) rfl
  obtain ⟨_, F10⟩ := c.d.def_ 10 (d := ld "_law_is_error" 48) rfl
  obtain ⟨_, F11⟩ := c.d.def_ 11 (d := ld "_law_right" 49) rfl
  obtain ⟨_, F12⟩ := c.d.def_ 12 (d := ld "law" 50) rfl
  exact { d__law_purse := def_of X G F0 (c.d.fact 0 (f := .glo "_law_purse") rfl) (fun _ _ _ _ _ _ us hl => match us, hl with | [_, _], _ => rfl),
              d__law_mixed := def_of X G F1 (c.d.fact 1 (f := .glo "_law_mixed") rfl) (fun _ _ _ _ _ _ us hl => match us, hl with | [_, _, _], _ => rfl),
              d__law_draw := def_of X G F2 (c.d.fact 2 (f := .glo "_law_draw") rfl) (fun _ _ _ _ _ _ us hl => match us, hl with | [_, _], _ => rfl),
              d__law_purses := def_of X G F3 (c.d.fact 3 (f := .glo "_law_purses") rfl) (fun _ _ _ _ _ _ us hl => match us, hl with | [_, _], _ => rfl),
              d__law_one_of := def_of X G F4 (c.d.fact 4 (f := .glo "_law_one_of") rfl) (fun _ _ _ _ _ _ us hl => match us, hl with | [_, _], _ => rfl),
              d__law_word := def_of X G F5 (c.d.fact 5 (f := .glo "_law_word") rfl) (fun _ _ _ _ _ _ us hl => match us, hl with | [_], _ => rfl),
              d__law_first := def_of X G F6 (c.d.fact 6 (f := .glo "_law_first") rfl) (fun _ _ _ _ _ _ us hl => match us, hl with | [_], _ => rfl),
              d__law_called := def_of X G F7 (c.d.fact 7 (f := .glo "_law_called") rfl) (fun _ _ _ _ _ _ us hl => match us, hl with | [_], _ => rfl),
              d__law_bare := def_of X G F8 (c.d.fact 8 (f := .glo "_law_bare") rfl) (fun _ _ _ _ _ _ us hl => match us, hl with | [], _ => rfl),
              d__law_code := def_of X G F9 (c.d.fact 9 (f := .glo "_law_code") rfl) (fun _ _ _ _ _ _ us hl => match us, hl with | [_], _ => rfl),
              d__law_is_error := def_of X G F10 (c.d.fact 10 (f := .glo "_law_is_error") rfl) (fun _ _ _ _ _ _ us hl => match us, hl with | [_], _ => rfl),
              d__law_right := def_of X G F11 (c.d.fact 11 (f := .glo "_law_right") rfl) (fun _ _ _ _ _ _ us hl => match us, hl with | [_, _], _ => rfl),
              d_law := def_of X G F12 (c.d.fact 12 (f := .glo "law") rfl) (fun _ _ _ _ _ _ us hl => match us, hl with | [_], _ => rfl),
              n_ValueError := He.free_ok X G (c.d.fact 24 (f := .free "ValueError") rfl),
              n_all := He.free_ok X G (c.d.fact 22 (f := .free "all") rfl),
              n_int := He.free_ok X G (c.d.fact 17 (f := .free "int") rfl),
              n_isinstance := He.free_ok X G (c.d.fact 20 (f := .free "isinstance") rfl),
              n_len := He.free_ok X G (c.d.fact 13 (f := .free "len") rfl),
              n_list := He.free_ok X G (c.d.fact 19 (f := .free "list") rfl),
              n_max := He.free_ok X G (c.d.fact 14 (f := .free "max") rfl),
              n_min := He.free_ok X G (c.d.fact 15 (f := .free "min") rfl),
              n_range := He.free_ok X G (c.d.fact 18 (f := .free "range") rfl),
              n_repr := He.free_ok X G (c.d.fact 21 (f := .free "repr") rfl),
              n_sum := He.free_ok X G (c.d.fact 16 (f := .free "sum") rfl) }
theorem va_0 (X : K.In h) (G : h.Ns mainGlobals mg) (c : Sy K) (fl : P.main.file = "/claim/cut.py") (top : (P.main.scope.names.lookup ("super" : Str)).isSome = false) (sup : PySem.W.nsIn K mainGlobals "super" = some none) (opq : PySem.W.nsIn K cStatics "thirdparty.any" = some none) : PySem.Kex.ValTxt P K mg (nm 0) (cl K 0) (Kh.iAd K (nm 0)) := by
  obtain ⟨c1, c2⟩ := c.errs ⟨"InvalidToken", topS 2⟩ (List.mem_of_getElem? (i := 0) rfl)
  exact Kh.err_txt (d := ⟨"InvalidToken", topS 2⟩) X G c2 c1 rfl rfl rfl (by decide +kernel) fl top sup opq
theorem va_1 (X : K.In h) (G : h.Ns mainGlobals mg) (c : Sy K) (fl : P.main.file = "/claim/cut.py") (top : (P.main.scope.names.lookup ("super" : Str)).isSome = false) (sup : PySem.W.nsIn K mainGlobals "super" = some none) (opq : PySem.W.nsIn K cStatics "thirdparty.any" = some none) : PySem.Kex.ValTxt P K mg (nm 1) (cl K 1) (Kh.iAd K (nm 1)) := by
  obtain ⟨c1, c2⟩ := c.errs ⟨"InvalidText", topS 3⟩ (List.mem_of_getElem? (i := 1) rfl)
  exact Kh.err_txt (d := ⟨"InvalidText", topS 3⟩) X G c2 c1 rfl rfl rfl (by decide +kernel) fl top sup opq
theorem va_2 (X : K.In h) (G : h.Ns mainGlobals mg) (c : Sy K) (fl : P.main.file = "/claim/cut.py") (top : (P.main.scope.names.lookup ("super" : Str)).isSome = false) (sup : PySem.W.nsIn K mainGlobals "super" = some none) (opq : PySem.W.nsIn K cStatics "thirdparty.any" = some none) : PySem.Kex.ValTxt P K mg (nm 2) (cl K 2) (Kh.iAd K (nm 2)) := by
  obtain ⟨c1, c2⟩ := c.errs ⟨"InvalidForm", topS 4⟩ (List.mem_of_getElem? (i := 2) rfl)
  exact Kh.err_txt (d := ⟨"InvalidForm", topS 4⟩) X G c2 c1 rfl rfl rfl (by decide +kernel) fl top sup opq
theorem va_3 (X : K.In h) (G : h.Ns mainGlobals mg) (c : Sy K) (fl : P.main.file = "/claim/cut.py") (top : (P.main.scope.names.lookup ("super" : Str)).isSome = false) (sup : PySem.W.nsIn K mainGlobals "super" = some none) (opq : PySem.W.nsIn K cStatics "thirdparty.any" = some none) : PySem.Kex.ValTxt P K mg (nm 3) (cl K 3) (Kh.iAd K (nm 3)) := by
  obtain ⟨c1, c2⟩ := c.errs ⟨"InvalidForms", topS 5⟩ (List.mem_of_getElem? (i := 3) rfl)
  exact Kh.err_txt (d := ⟨"InvalidForms", topS 5⟩) X G c2 c1 rfl rfl rfl (by decide +kernel) fl top sup opq
theorem va_4 (X : K.In h) (G : h.Ns mainGlobals mg) (c : Sy K) (fl : P.main.file = "/claim/cut.py") (top : (P.main.scope.names.lookup ("super" : Str)).isSome = false) (sup : PySem.W.nsIn K mainGlobals "super" = some none) (opq : PySem.W.nsIn K cStatics "thirdparty.any" = some none) : PySem.Kex.ValTxt P K mg (nm 4) (cl K 4) (Kh.iAd K (nm 4)) := by
  obtain ⟨c1, c2⟩ := c.errs ⟨"InvalidWords", topS 6⟩ (List.mem_of_getElem? (i := 4) rfl)
  exact Kh.err_txt (d := ⟨"InvalidWords", topS 6⟩) X G c2 c1 rfl rfl rfl (by decide +kernel) fl top sup opq
theorem va_5 (X : K.In h) (G : h.Ns mainGlobals mg) (c : Sy K) (fl : P.main.file = "/claim/cut.py") (top : (P.main.scope.names.lookup ("super" : Str)).isSome = false) (sup : PySem.W.nsIn K mainGlobals "super" = some none) (opq : PySem.W.nsIn K cStatics "thirdparty.any" = some none) : PySem.Kex.ValTxt P K mg (nm 5) (cl K 5) (Kh.iAd K (nm 5)) := by
  obtain ⟨c1, c2⟩ := c.errs ⟨"Unsound", topS 7⟩ (List.mem_of_getElem? (i := 5) rfl)
  exact Kh.err_txt (d := ⟨"Unsound", topS 7⟩) X G c2 c1 rfl rfl rfl (by decide +kernel) fl top sup opq
theorem va_6 (X : K.In h) (G : h.Ns mainGlobals mg) (c : Sy K) (fl : P.main.file = "/claim/cut.py") (top : (P.main.scope.names.lookup ("super" : Str)).isSome = false) (sup : PySem.W.nsIn K mainGlobals "super" = some none) (opq : PySem.W.nsIn K cStatics "thirdparty.any" = some none) : PySem.Kex.ValTxt P K mg (nm 6) (cl K 6) (Kh.iAd K (nm 6)) := by
  obtain ⟨c1, c2⟩ := c.errs ⟨"InvalidEdition", topS 8⟩ (List.mem_of_getElem? (i := 6) rfl)
  exact Kh.err_txt (d := ⟨"InvalidEdition", topS 8⟩) X G c2 c1 rfl rfl rfl (by decide +kernel) fl top sup opq
theorem va_7 (X : K.In h) (G : h.Ns mainGlobals mg) (c : Sy K) (fl : P.main.file = "/claim/cut.py") (top : (P.main.scope.names.lookup ("super" : Str)).isSome = false) (sup : PySem.W.nsIn K mainGlobals "super" = some none) (opq : PySem.W.nsIn K cStatics "thirdparty.any" = some none) : PySem.Kex.ValTxt P K mg (nm 7) (cl K 7) (Kh.iAd K (nm 7)) := by
  obtain ⟨c1, c2⟩ := c.errs ⟨"InvalidEditions", topS 9⟩ (List.mem_of_getElem? (i := 7) rfl)
  exact Kh.err_txt (d := ⟨"InvalidEditions", topS 9⟩) X G c2 c1 rfl rfl rfl (by decide +kernel) fl top sup opq
theorem va_8 (X : K.In h) (G : h.Ns mainGlobals mg) (c : Sy K) (fl : P.main.file = "/claim/cut.py") (top : (P.main.scope.names.lookup ("super" : Str)).isSome = false) (sup : PySem.W.nsIn K mainGlobals "super" = some none) (opq : PySem.W.nsIn K cStatics "thirdparty.any" = some none) : PySem.Kex.ValTxt P K mg (nm 8) (cl K 8) (Kh.iAd K (nm 8)) := by
  obtain ⟨c1, c2⟩ := c.errs ⟨"InvalidChange", topS 10⟩ (List.mem_of_getElem? (i := 8) rfl)
  exact Kh.err_txt (d := ⟨"InvalidChange", topS 10⟩) X G c2 c1 rfl rfl rfl (by decide +kernel) fl top sup opq
theorem va_9 (X : K.In h) (G : h.Ns mainGlobals mg) (c : Sy K) (fl : P.main.file = "/claim/cut.py") (top : (P.main.scope.names.lookup ("super" : Str)).isSome = false) (sup : PySem.W.nsIn K mainGlobals "super" = some none) (opq : PySem.W.nsIn K cStatics "thirdparty.any" = some none) : PySem.Kex.ValTxt P K mg (nm 9) (cl K 9) (Kh.iAd K (nm 9)) := by
  obtain ⟨c1, c2⟩ := c.errs ⟨"InvalidChanges", topS 11⟩ (List.mem_of_getElem? (i := 9) rfl)
  exact Kh.err_txt (d := ⟨"InvalidChanges", topS 11⟩) X G c2 c1 rfl rfl rfl (by decide +kernel) fl top sup opq
theorem va_10 (X : K.In h) (G : h.Ns mainGlobals mg) (c : Sy K) (fl : P.main.file = "/claim/cut.py") (top : (P.main.scope.names.lookup ("super" : Str)).isSome = false) (sup : PySem.W.nsIn K mainGlobals "super" = some none) (opq : PySem.W.nsIn K cStatics "thirdparty.any" = some none) : PySem.Kex.ValTxt P K mg (nm 10) (cl K 10) (Kh.iAd K (nm 10)) := by
  obtain ⟨c1, c2⟩ := c.errs ⟨"InvalidPattern", topS 12⟩ (List.mem_of_getElem? (i := 10) rfl)
  exact Kh.err_txt (d := ⟨"InvalidPattern", topS 12⟩) X G c2 c1 rfl rfl rfl (by decide +kernel) fl top sup opq
theorem va_11 (X : K.In h) (G : h.Ns mainGlobals mg) (c : Sy K) (fl : P.main.file = "/claim/cut.py") (top : (P.main.scope.names.lookup ("super" : Str)).isSome = false) (sup : PySem.W.nsIn K mainGlobals "super" = some none) (opq : PySem.W.nsIn K cStatics "thirdparty.any" = some none) : PySem.Kex.ValTxt P K mg (nm 11) (cl K 11) (Kh.iAd K (nm 11)) := by
  obtain ⟨c1, c2⟩ := c.errs ⟨"Fault", topS 13⟩ (List.mem_of_getElem? (i := 11) rfl)
  exact Kh.err_txt (d := ⟨"Fault", topS 13⟩) X G c2 c1 rfl rfl rfl (by decide +kernel) fl top sup opq
theorem va_12 (X : K.In h) (G : h.Ns mainGlobals mg) (c : Sy K) (fl : P.main.file = "/claim/cut.py") (top : (P.main.scope.names.lookup ("super" : Str)).isSome = false) (sup : PySem.W.nsIn K mainGlobals "super" = some none) (opq : PySem.W.nsIn K cStatics "thirdparty.any" = some none) : PySem.Kex.ValTxt P K mg (nm 12) (cl K 12) (Kh.iAd K (nm 12)) := by
  obtain ⟨c1, c2⟩ := c.errs ⟨"InvalidKey", topS 14⟩ (List.mem_of_getElem? (i := 12) rfl)
  exact Kh.err_txt (d := ⟨"InvalidKey", topS 14⟩) X G c2 c1 rfl rfl rfl (by decide +kernel) fl top sup opq
theorem va_13 (X : K.In h) (G : h.Ns mainGlobals mg) (c : Sy K) (fl : P.main.file = "/claim/cut.py") (top : (P.main.scope.names.lookup ("super" : Str)).isSome = false) (sup : PySem.W.nsIn K mainGlobals "super" = some none) (opq : PySem.W.nsIn K cStatics "thirdparty.any" = some none) : PySem.Kex.ValTxt P K mg (nm 13) (cl K 13) (Kh.iAd K (nm 13)) := by
  obtain ⟨c1, c2⟩ := c.errs ⟨"InvalidTree", topS 15⟩ (List.mem_of_getElem? (i := 13) rfl)
  exact Kh.err_txt (d := ⟨"InvalidTree", topS 15⟩) X G c2 c1 rfl rfl rfl (by decide +kernel) fl top sup opq
theorem va_14 (X : K.In h) (G : h.Ns mainGlobals mg) (c : Sy K) (fl : P.main.file = "/claim/cut.py") (top : (P.main.scope.names.lookup ("super" : Str)).isSome = false) (sup : PySem.W.nsIn K mainGlobals "super" = some none) (opq : PySem.W.nsIn K cStatics "thirdparty.any" = some none) : PySem.Kex.ValTxt P K mg (nm 14) (cl K 14) (Kh.iAd K (nm 14)) := by
  obtain ⟨c1, c2⟩ := c.errs ⟨"UnknownForm", topS 16⟩ (List.mem_of_getElem? (i := 14) rfl)
  exact Kh.err_txt (d := ⟨"UnknownForm", topS 16⟩) X G c2 c1 rfl rfl rfl (by decide +kernel) fl top sup opq
theorem va_15 (X : K.In h) (G : h.Ns mainGlobals mg) (c : Sy K) (fl : P.main.file = "/claim/cut.py") (top : (P.main.scope.names.lookup ("super" : Str)).isSome = false) (sup : PySem.W.nsIn K mainGlobals "super" = some none) (opq : PySem.W.nsIn K cStatics "thirdparty.any" = some none) : PySem.Kex.ValTxt P K mg (nm 15) (cl K 15) (Kh.iAd K (nm 15)) := by
  obtain ⟨c1, c2⟩ := c.errs ⟨"InvalidPath", topS 17⟩ (List.mem_of_getElem? (i := 15) rfl)
  exact Kh.err_txt (d := ⟨"InvalidPath", topS 17⟩) X G c2 c1 rfl rfl rfl (by decide +kernel) fl top sup opq
theorem va_16 (X : K.In h) (G : h.Ns mainGlobals mg) (c : Sy K) (fl : P.main.file = "/claim/cut.py") (top : (P.main.scope.names.lookup ("super" : Str)).isSome = false) (sup : PySem.W.nsIn K mainGlobals "super" = some none) (opq : PySem.W.nsIn K cStatics "thirdparty.any" = some none) : PySem.Kex.ValTxt P K mg (nm 16) (cl K 16) (Kh.iAd K (nm 16)) := by
  obtain ⟨c1, c2⟩ := c.errs ⟨"InvalidSpot", topS 18⟩ (List.mem_of_getElem? (i := 16) rfl)
  exact Kh.err_txt (d := ⟨"InvalidSpot", topS 18⟩) X G c2 c1 rfl rfl rfl (by decide +kernel) fl top sup opq
theorem va_17 (X : K.In h) (G : h.Ns mainGlobals mg) (c : Sy K) (fl : P.main.file = "/claim/cut.py") (top : (P.main.scope.names.lookup ("super" : Str)).isSome = false) (sup : PySem.W.nsIn K mainGlobals "super" = some none) (opq : PySem.W.nsIn K cStatics "thirdparty.any" = some none) : PySem.Kex.ValTxt P K mg (nm 17) (cl K 17) (Kh.iAd K (nm 17)) := by
  obtain ⟨c1, c2⟩ := c.errs ⟨"InvalidMarks", topS 19⟩ (List.mem_of_getElem? (i := 17) rfl)
  exact Kh.err_txt (d := ⟨"InvalidMarks", topS 19⟩) X G c2 c1 rfl rfl rfl (by decide +kernel) fl top sup opq
theorem va_18 (X : K.In h) (G : h.Ns mainGlobals mg) (c : Sy K) (fl : P.main.file = "/claim/cut.py") (top : (P.main.scope.names.lookup ("super" : Str)).isSome = false) (sup : PySem.W.nsIn K mainGlobals "super" = some none) (opq : PySem.W.nsIn K cStatics "thirdparty.any" = some none) : PySem.Kex.ValTxt P K mg (nm 18) (cl K 18) (Kh.iAd K (nm 18)) := by
  obtain ⟨c1, c2⟩ := c.errs ⟨"InvalidWay", topS 20⟩ (List.mem_of_getElem? (i := 18) rfl)
  exact Kh.err_txt (d := ⟨"InvalidWay", topS 20⟩) X G c2 c1 rfl rfl rfl (by decide +kernel) fl top sup opq
theorem va_19 (X : K.In h) (G : h.Ns mainGlobals mg) (c : Sy K) (fl : P.main.file = "/claim/cut.py") (top : (P.main.scope.names.lookup ("super" : Str)).isSome = false) (sup : PySem.W.nsIn K mainGlobals "super" = some none) (opq : PySem.W.nsIn K cStatics "thirdparty.any" = some none) : PySem.Kex.ValTxt P K mg (nm 19) (cl K 19) (Kh.iAd K (nm 19)) := by
  obtain ⟨c1, c2⟩ := c.errs ⟨"InvalidTable", topS 21⟩ (List.mem_of_getElem? (i := 19) rfl)
  exact Kh.err_txt (d := ⟨"InvalidTable", topS 21⟩) X G c2 c1 rfl rfl rfl (by decide +kernel) fl top sup opq
theorem va_20 (X : K.In h) (G : h.Ns mainGlobals mg) (c : Sy K) (fl : P.main.file = "/claim/cut.py") (top : (P.main.scope.names.lookup ("super" : Str)).isSome = false) (sup : PySem.W.nsIn K mainGlobals "super" = some none) (opq : PySem.W.nsIn K cStatics "thirdparty.any" = some none) : PySem.Kex.ValTxt P K mg (nm 20) (cl K 20) (Kh.iAd K (nm 20)) := by
  obtain ⟨c1, c2⟩ := c.errs ⟨"InvalidWorkshop", topS 22⟩ (List.mem_of_getElem? (i := 20) rfl)
  exact Kh.err_txt (d := ⟨"InvalidWorkshop", topS 22⟩) X G c2 c1 rfl rfl rfl (by decide +kernel) fl top sup opq
theorem va_21 (X : K.In h) (G : h.Ns mainGlobals mg) (c : Sy K) (fl : P.main.file = "/claim/cut.py") (top : (P.main.scope.names.lookup ("super" : Str)).isSome = false) (sup : PySem.W.nsIn K mainGlobals "super" = some none) (opq : PySem.W.nsIn K cStatics "thirdparty.any" = some none) : PySem.Kex.ValTxt P K mg (nm 21) (cl K 21) (Kh.iAd K (nm 21)) := by
  obtain ⟨c1, c2⟩ := c.errs ⟨"InvalidLog", topS 23⟩ (List.mem_of_getElem? (i := 21) rfl)
  exact Kh.err_txt (d := ⟨"InvalidLog", topS 23⟩) X G c2 c1 rfl rfl rfl (by decide +kernel) fl top sup opq
theorem va_22 (X : K.In h) (G : h.Ns mainGlobals mg) (c : Sy K) (fl : P.main.file = "/claim/cut.py") (top : (P.main.scope.names.lookup ("super" : Str)).isSome = false) (sup : PySem.W.nsIn K mainGlobals "super" = some none) (opq : PySem.W.nsIn K cStatics "thirdparty.any" = some none) : PySem.Kex.ValTxt P K mg (nm 22) (cl K 22) (Kh.iAd K (nm 22)) := by
  obtain ⟨c1, c2⟩ := c.errs ⟨"InvalidScript", topS 24⟩ (List.mem_of_getElem? (i := 22) rfl)
  exact Kh.err_txt (d := ⟨"InvalidScript", topS 24⟩) X G c2 c1 rfl rfl rfl (by decide +kernel) fl top sup opq
theorem va_23 (X : K.In h) (G : h.Ns mainGlobals mg) (c : Sy K) (fl : P.main.file = "/claim/cut.py") (top : (P.main.scope.names.lookup ("super" : Str)).isSome = false) (sup : PySem.W.nsIn K mainGlobals "super" = some none) (opq : PySem.W.nsIn K cStatics "thirdparty.any" = some none) : PySem.Kex.ValTxt P K mg (nm 23) (cl K 23) (Kh.iAd K (nm 23)) := by
  obtain ⟨c1, c2⟩ := c.errs ⟨"InvalidCount", topS 25⟩ (List.mem_of_getElem? (i := 23) rfl)
  exact Kh.err_txt (d := ⟨"InvalidCount", topS 25⟩) X G c2 c1 rfl rfl rfl (by decide +kernel) fl top sup opq
theorem va_24 (X : K.In h) (G : h.Ns mainGlobals mg) (c : Sy K) (fl : P.main.file = "/claim/cut.py") (top : (P.main.scope.names.lookup ("super" : Str)).isSome = false) (sup : PySem.W.nsIn K mainGlobals "super" = some none) (opq : PySem.W.nsIn K cStatics "thirdparty.any" = some none) : PySem.Kex.ValTxt P K mg (nm 24) (cl K 24) (Kh.iAd K (nm 24)) := by
  obtain ⟨c1, c2⟩ := c.errs ⟨"Refused", topS 26⟩ (List.mem_of_getElem? (i := 24) rfl)
  exact Kh.err_txt (d := ⟨"Refused", topS 26⟩) X G c2 c1 rfl rfl rfl (by decide +kernel) fl top sup opq
theorem va_25 (X : K.In h) (G : h.Ns mainGlobals mg) (c : Sy K) (fl : P.main.file = "/claim/cut.py") (top : (P.main.scope.names.lookup ("super" : Str)).isSome = false) (sup : PySem.W.nsIn K mainGlobals "super" = some none) (opq : PySem.W.nsIn K cStatics "thirdparty.any" = some none) : PySem.Kex.ValTxt P K mg (nm 25) (cl K 25) (Kh.iAd K (nm 25)) := by
  obtain ⟨c1, c2⟩ := c.errs ⟨"InvalidEdit", topS 27⟩ (List.mem_of_getElem? (i := 25) rfl)
  exact Kh.err_txt (d := ⟨"InvalidEdit", topS 27⟩) X G c2 c1 rfl rfl rfl (by decide +kernel) fl top sup opq
theorem va_26 (X : K.In h) (G : h.Ns mainGlobals mg) (c : Sy K) (fl : P.main.file = "/claim/cut.py") (top : (P.main.scope.names.lookup ("super" : Str)).isSome = false) (sup : PySem.W.nsIn K mainGlobals "super" = some none) (opq : PySem.W.nsIn K cStatics "thirdparty.any" = some none) : PySem.Kex.ValTxt P K mg (nm 26) (cl K 26) (Kh.iAd K (nm 26)) := by
  obtain ⟨c1, c2⟩ := c.errs ⟨"UnknownPlace", topS 28⟩ (List.mem_of_getElem? (i := 26) rfl)
  exact Kh.err_txt (d := ⟨"UnknownPlace", topS 28⟩) X G c2 c1 rfl rfl rfl (by decide +kernel) fl top sup opq
theorem va_27 (X : K.In h) (G : h.Ns mainGlobals mg) (c : Sy K) (fl : P.main.file = "/claim/cut.py") (top : (P.main.scope.names.lookup ("super" : Str)).isSome = false) (sup : PySem.W.nsIn K mainGlobals "super" = some none) (opq : PySem.W.nsIn K cStatics "thirdparty.any" = some none) : PySem.Kex.ValTxt P K mg (nm 27) (cl K 27) (Kh.iAd K (nm 27)) := by
  obtain ⟨c1, c2⟩ := c.errs ⟨"InvalidReason", topS 29⟩ (List.mem_of_getElem? (i := 27) rfl)
  exact Kh.err_txt (d := ⟨"InvalidReason", topS 29⟩) X G c2 c1 rfl rfl rfl (by decide +kernel) fl top sup opq
theorem va_28 (X : K.In h) (G : h.Ns mainGlobals mg) (c : Sy K) (fl : P.main.file = "/claim/cut.py") (top : (P.main.scope.names.lookup ("super" : Str)).isSome = false) (sup : PySem.W.nsIn K mainGlobals "super" = some none) (opq : PySem.W.nsIn K cStatics "thirdparty.any" = some none) : PySem.Kex.ValTxt P K mg (nm 28) (cl K 28) (Kh.iAd K (nm 28)) := by
  obtain ⟨c1, c2⟩ := c.errs ⟨"InvalidStack", topS 30⟩ (List.mem_of_getElem? (i := 28) rfl)
  exact Kh.err_txt (d := ⟨"InvalidStack", topS 30⟩) X G c2 c1 rfl rfl rfl (by decide +kernel) fl top sup opq
theorem va_29 (X : K.In h) (G : h.Ns mainGlobals mg) (c : Sy K) (fl : P.main.file = "/claim/cut.py") (top : (P.main.scope.names.lookup ("super" : Str)).isSome = false) (sup : PySem.W.nsIn K mainGlobals "super" = some none) (opq : PySem.W.nsIn K cStatics "thirdparty.any" = some none) : PySem.Kex.ValTxt P K mg (nm 29) (cl K 29) (Kh.iAd K (nm 29)) := by
  obtain ⟨c1, c2⟩ := c.errs ⟨"InvalidRow", topS 31⟩ (List.mem_of_getElem? (i := 29) rfl)
  exact Kh.err_txt (d := ⟨"InvalidRow", topS 31⟩) X G c2 c1 rfl rfl rfl (by decide +kernel) fl top sup opq
theorem va_30 (X : K.In h) (G : h.Ns mainGlobals mg) (c : Sy K) (fl : P.main.file = "/claim/cut.py") (top : (P.main.scope.names.lookup ("super" : Str)).isSome = false) (sup : PySem.W.nsIn K mainGlobals "super" = some none) (opq : PySem.W.nsIn K cStatics "thirdparty.any" = some none) : PySem.Kex.ValTxt P K mg (nm 30) (cl K 30) (Kh.iAd K (nm 30)) := by
  obtain ⟨c1, c2⟩ := c.errs ⟨"InvalidLot", topS 32⟩ (List.mem_of_getElem? (i := 30) rfl)
  exact Kh.err_txt (d := ⟨"InvalidLot", topS 32⟩) X G c2 c1 rfl rfl rfl (by decide +kernel) fl top sup opq
theorem va_31 (X : K.In h) (G : h.Ns mainGlobals mg) (c : Sy K) (fl : P.main.file = "/claim/cut.py") (top : (P.main.scope.names.lookup ("super" : Str)).isSome = false) (sup : PySem.W.nsIn K mainGlobals "super" = some none) (opq : PySem.W.nsIn K cStatics "thirdparty.any" = some none) : PySem.Kex.ValTxt P K mg (nm 31) (cl K 31) (Kh.iAd K (nm 31)) := by
  obtain ⟨c1, c2⟩ := c.errs ⟨"InvalidSurroundings", topS 33⟩ (List.mem_of_getElem? (i := 31) rfl)
  exact Kh.err_txt (d := ⟨"InvalidSurroundings", topS 33⟩) X G c2 c1 rfl rfl rfl (by decide +kernel) fl top sup opq
theorem va_32 (X : K.In h) (G : h.Ns mainGlobals mg) (c : Sy K) (fl : P.main.file = "/claim/cut.py") (top : (P.main.scope.names.lookup ("super" : Str)).isSome = false) (sup : PySem.W.nsIn K mainGlobals "super" = some none) (opq : PySem.W.nsIn K cStatics "thirdparty.any" = some none) : PySem.Kex.ValTxt P K mg (nm 32) (cl K 32) (Kh.iAd K (nm 32)) := by
  obtain ⟨c1, c2⟩ := c.errs ⟨"InvalidLook", topS 34⟩ (List.mem_of_getElem? (i := 32) rfl)
  exact Kh.err_txt (d := ⟨"InvalidLook", topS 34⟩) X G c2 c1 rfl rfl rfl (by decide +kernel) fl top sup opq
theorem va_all (X : K.In h) (G : h.Ns mainGlobals mg) (c : Sy K) (fl : P.main.file = "/claim/cut.py") (top : (P.main.scope.names.lookup ("super" : Str)).isSome = false) (sup : PySem.W.nsIn K mainGlobals "super" = some none) (opq : PySem.W.nsIn K cStatics "thirdparty.any" = some none) : ∀ i, i < 33 → PySem.Kex.ValTxt P K mg (nm i) (cl K i) (Kh.iAd K (nm i))
  | 0, _ => va_0 X G c fl top sup opq
  | 1, _ => va_1 X G c fl top sup opq
  | 2, _ => va_2 X G c fl top sup opq
  | 3, _ => va_3 X G c fl top sup opq
  | 4, _ => va_4 X G c fl top sup opq
  | 5, _ => va_5 X G c fl top sup opq
  | 6, _ => va_6 X G c fl top sup opq
  | 7, _ => va_7 X G c fl top sup opq
  | 8, _ => va_8 X G c fl top sup opq
  | 9, _ => va_9 X G c fl top sup opq
  | 10, _ => va_10 X G c fl top sup opq
  | 11, _ => va_11 X G c fl top sup opq
  | 12, _ => va_12 X G c fl top sup opq
  | 13, _ => va_13 X G c fl top sup opq
  | 14, _ => va_14 X G c fl top sup opq
  | 15, _ => va_15 X G c fl top sup opq
  | 16, _ => va_16 X G c fl top sup opq
  | 17, _ => va_17 X G c fl top sup opq
  | 18, _ => va_18 X G c fl top sup opq
  | 19, _ => va_19 X G c fl top sup opq
  | 20, _ => va_20 X G c fl top sup opq
  | 21, _ => va_21 X G c fl top sup opq
  | 22, _ => va_22 X G c fl top sup opq
  | 23, _ => va_23 X G c fl top sup opq
  | 24, _ => va_24 X G c fl top sup opq
  | 25, _ => va_25 X G c fl top sup opq
  | 26, _ => va_26 X G c fl top sup opq
  | 27, _ => va_27 X G c fl top sup opq
  | 28, _ => va_28 X G c fl top sup opq
  | 29, _ => va_29 X G c fl top sup opq
  | 30, _ => va_30 X G c fl top sup opq
  | 31, _ => va_31 X G c fl top sup opq
  | 32, _ => va_32 X G c fl top sup opq
  | n + 33, z => absurd z (by omega)
theorem isi_all (c : Sy K) : ∀ i, i < 36 → Kh.isiB K (cl K i) = true := by
  intro i hi
  by_cases z : i < 33
  · have hl : es.length = 33 := rfl
    have e : ∀ k : Nat, k < 33 → (es.getD k ⟨Str.empty, topS 0⟩).cn = nm k := by decide +kernel
    have m : es.getD i ⟨Str.empty, topS 0⟩ ∈ es := by
      rw [List.getD_eq_getElem?_getD, List.getElem?_eq_getElem (by rw [hl]; exact z)]
      exact List.getElem_mem _
    have z := errB_isi (c.errs _ m).1
    rw [e i (by assumption)] at z
    exact z
  · have m := (He.ba c.more).1
    have m := List.all_eq_true.mp m
    have k : i = 33 ∨ i = 34 ∨ i = 35 := by omega
    rcases k with rfl | rfl | rfl
    · exact m "NothingToUndo" (List.mem_of_getElem? (i := 0) rfl)
    · exact m "NothingToRedo" (List.mem_of_getElem? (i := 1) rfl)
    · exact m "TongueError" (List.mem_of_getElem? (i := 2) rfl)
def bmOf (K : PySem.W.Frag) (i : Nat) : List Value := if i = 35 then veT else .ref (cl K 35) :: veT
theorem mro_all (e : ey K = true) : ∀ i, i < 36 → Kh.mroB K (cl K i) (bmOf K i) = true := by
  intro i hi
  obtain ⟨e1, e⟩ := He.ba e
  obtain ⟨e2, e⟩ := He.ba e
  obtain ⟨e3, e⟩ := He.ba e
  obtain ⟨e4, e5⟩ := He.ba e
  unfold bmOf
  by_cases z : i < 33
  · rw [if_neg (by omega)]
    have hl : own.length = 33 := rfl
    have eo : ∀ k : Nat, k < 33 → own.getD k Str.empty = nm k := by decide +kernel
    have m : own.getD i Str.empty ∈ own := by
      rw [List.getD_eq_getElem?_getD, List.getElem?_eq_getElem (by rw [hl]; exact z)]
      exact List.getElem_mem _
    have w := List.all_eq_true.mp e2 _ m
    rw [eo i z] at w
    exact w
  · have k : i = 33 ∨ i = 34 ∨ i = 35 := by omega
    rcases k with rfl | rfl | rfl
    · rw [if_neg (by decide)]
      exact e3
    · rw [if_neg (by decide)]
      exact e4
    · rw [if_pos rfl]
      exact e1
theorem sep_all (e : ey K = true) : ∀ i j, i < 36 → j < 36 → cl K i = cl K j → i = j := by
  obtain ⟨_, e⟩ := He.ba e
  obtain ⟨_, e⟩ := He.ba e
  obtain ⟨_, e⟩ := He.ba e
  obtain ⟨_, e⟩ := He.ba e
  have nd := Kh.apartB_ok e
  have hl : (every.map (He.ga K)).length = 36 := rfl
  have eo : ∀ k : Nat, (h : k < 36) → (every.map (He.ga K))[k]'(by rw [hl]; exact h) = cl K k := by
    intro k h
    rw [List.getElem_map]
    show He.ga K _ = He.ga K (every.getD k Str.empty)
    rw [List.getD_eq_getElem?_getD, List.getElem?_eq_getElem (by exact h)]
    rfl
  have pw := List.pairwise_iff_getElem.mp nd
  intro i j hi hj h
  rw [← eo i hi, ← eo j hj] at h
  by_cases z : i = j
  · exact z
  · by_cases y : i < j
    · exact absurd h (pw i j (by rw [hl]; exact hi) (by rw [hl]; exact hj) y)
    · exact absurd h.symm (pw j i (by rw [hl]; exact hj) (by rw [hl]; exact hi) (by omega))
theorem kit_all (e : ey K = true) : ∀ i j, i < 36 → j < 36 → PySem.W.kitOne K (.ref (cl K i)) (.ref (cl K j)) = some (decide (i = j) || decide (j = 35)) := by
  intro i j hi hj
  rw [Kh.kit_own (mro_all e i hi) (mro_all e j hj)]
  have e1 : decide (cl K i = cl K j) = decide (i = j) := decide_eq_decide.mpr ⟨sep_all e i j hi hj, fun z => by rw [z]⟩
  rw [e1]
  have e0 : ∀ C : Addr, veT.contains (.ref C) = false := fun _ => rfl
  have e2 : (Value.ref (cl K j) == Value.ref (cl K 35)) = decide (j = 35) := by
    by_cases z : j = 35
    · rw [z, decide_eq_true rfl]
      exact beq_self_eq_true _
    · rw [decide_eq_false z]
      exact beq_eq_false_iff_ne.mpr fun y => z (sep_all e j 35 hj (by decide) (Value.ref.inj y))
  unfold bmOf
  by_cases z : i = 35
  · rw [if_pos z, e0, z]
    by_cases y : j = 35
    · rw [y]
      rfl
    · rw [decide_eq_false y, Bool.or_false]
  · rw [if_neg z, List.contains_cons, e0, Bool.or_false, e2]
theorem ve_all (e : ey K = true) : ∀ i, i < 36 → PySem.W.kitOne K (.ref (cl K i)) (.type "ValueError") = some true := by
  intro i hi
  refine Kh.kit_ve (mro_all e i hi) ?_
  unfold bmOf
  split <;> rfl
theorem cl_mk (X : K.In h) (G : h.Ns mainGlobals mg) (c : Sy K) (e : ey K = true) (fl : P.main.file = "/claim/cut.py") (top : (P.main.scope.names.lookup ("super" : Str)).isSome = false) : Cl P K mg := by
  have sup : PySem.W.nsIn K mainGlobals "super" = some none := He.eqO_ok (c.d.fact 23 (f := .free "super") rfl)
  obtain ⟨_, m⟩ := He.ba c.more
  obtain ⟨m1, m2⟩ := He.ba m
  have opq : PySem.W.nsIn K cStatics "thirdparty.any" = some none := of_decide_eq_true m1
  have va := va_all (P := P) X G c fl top sup opq
  have x0 := He.exc_ok (K := K) (x := "NothingToUndo") (c.d.fact 28 (f := .exc "NothingToUndo") rfl)
  have x1 := He.exc_ok (K := K) (x := "NothingToRedo") (c.d.fact 30 (f := .exc "NothingToRedo") rfl)
  have x2 := He.exc_ok (K := K) (x := "TongueError") (c.d.fact 32 (f := .exc "TongueError") rfl)
  have three : ∀ i, 33 ≤ i → i < 36 → i = 33 ∨ i = 34 ∨ i = 35 := fun i _ _ => by omega
  refine { va := va, gl := fun i hi => ?_, kp := fun i h1 h2 => ?_, exc := fun i h1 h2 => ?_, isi := fun i hi => Kh.isiB_ok (isi_all c i hi), kit := kit_all e, ve := ve_all e, sep := sep_all e, sys := m2 }
  · by_cases z : i < 33
    · exact (va i z).gC
    · rcases three i (by omega) hi with rfl | rfl | rfl
      · exact He.glo_ok X G (c.d.fact 27 (f := .glo "NothingToUndo") rfl)
      · exact He.glo_ok X G (c.d.fact 29 (f := .glo "NothingToRedo") rfl)
      · exact He.glo_ok X G (c.d.fact 31 (f := .glo "TongueError") rfl)
  · rcases three i h1 h2 with rfl | rfl | rfl
    · exact x0.2.1
    · exact x1.2.1
    · exact x2.2.1
  · rcases three i h1 h2 with rfl | rfl | rfl
    · exact x0.1
    · exact x1.1
    · exact x2.1
theorem ok_all (T : Txt K mg) (TC : Cl P K mg) {f : Addr} {fd : FuncData} (F : Fun K "law" "law" s_law f fd) : FnOkG P w K mg base 5 f fd p_law (sp_law K) := by
  have g1 : Con P w K mg base "_law_mixed" p__law_mixed 2 sp_mixed := ok_mixed T
  have g2 := ok_draw T g1
  have h1 := ok_one_of T g2
  have h2 := ok_word T g2
  have j1 : Con P w K mg base "_law_purse" p__law_purse 2 (sp_purse K) := ok_purse T
  have j2 := ok_purses T j1
  have k1 := ok_first (base := base) (w := w) T TC
  have k2 := ok_called (base := base) (w := w) T TC
  have k3 := ok_bare (base := base) (w := w) T TC
  have k4 := ok_code (base := base) (w := w) T TC
  have k5 := ok_is_error (base := base) (w := w) T TC
  have k6 := ok_right T TC k4 k5
  exact ok_law T TC j2 h2 h1 k1 k2 k3 k4 k5 k6 F
theorem scr_mk {H : Hp} {a : Addr} {ns : List Int} (hO : Only H) (hS : SqL K H a (ns.map V.int)) : sp_law K [.ref a] H (fun v _ => v = .bl true) fun _ _ _ => False := by
  have fin : ∀ (v : V) (d : D) (H' : Hp), d = .bl true → Same H H' → Rp (Off [] H') v d → v = .bl true := fun v d H' e _ r => by
    subst e
    cases r
    rfl
  rcases hS with hS | hS
  · have hf : ∃ o, H a = some (.frz o (.lst (ns.map V.int))) := by
      rcases hS with hS | hS
      · rcases hO a with z | ⟨o, xs, z⟩
        · rw [z] at hS; cases hS
        · rw [z] at hS; cases hS
      · exact hS
    obtain ⟨o, ho⟩ := hf
    refine ⟨[], [.fz (some (o, ns.map V.int)) a], fun b z => (by cases z), .cons (.fz fun o' xs e => ?_) .nil, ⟨_, ns, rfl, _, a, rfl, .inl ⟨o, rfl⟩⟩, fin⟩
    cases e
    rw [off_nil]
    exact ho
  · exact ⟨[], [.fz none a], fun b z => (by cases z), .cons (.fz fun o' xs e => by cases e) .nil, ⟨_, ns, rfl, _, a, rfl, .inr fun H' => .inr hS⟩, fin⟩
theorem facts {f : Addr} (X : K.In h) (G : h.Ns mainGlobals mg) (hfa : mg ("law" : Str) = some (.ref f)) (c : Sy K) (e : ey K = true) (fl : P.main.file = "/claim/cut.py") (top : (P.main.scope.names.lookup ("super" : Str)).isSome = false) :
    ∃ fd : FuncData, (∀ (s : Shared) (v : Value), BindsTo s fd ⟨[v], []⟩ [("_law_script", v)]) ∧ ∀ base : Heap, K.In base → base.Ns mainGlobals mg → FnOkG P w K mg base 5 f fd ["_law_script"] (sp_law K) := by
  obtain ⟨fd, F⟩ := c.d.def_ 12 (d := ld "law" 50) rfl
  have z := hfa.symm.trans (He.glo_ok X G (c.d.fact 12 (f := .glo "law") rfl))
  cases z
  have b := FunD.bindsA (ps := ["_law_script"]) F fun _ _ _ _ _ _ us hl => match us, hl with | [_], _ => rfl
  exact ⟨fd, fun s v => b s [v] rfl, fun base _ _ => ok_all (txt_mk X G c) (cl_mk X G c e fl top) (funD_fun F)⟩
end
end K1
open PySem PySem.W PySem.Calls PyProof.Rows
set_option maxHeartbeats 0 in
theorem PySem.Challenge.cw_keptreadings_k01_errors_made_holds : PySem.Challenge.rw_keptreadings_k01_errors_made.Holds := by
  w_on; o_law
  refine HandSHeadRun.head_any (r := OpenLaw.row PySem.Challenge.rw_keptreadings_k01_errors_made) (q := view (OpenLaw.row PySem.Challenge.rw_keptreadings_k01_errors_made).prog [50]) (H := K1.hk) (ob := K1.ob) (M := 20000) (loose := K1.loose) (d := HandSHeadRun.topDef (OpenLaw.row PySem.Challenge.rw_keptreadings_k01_errors_made).prog 50) (kwd := []) K1.ob_eq
    (by kernel_rfl) (fun s => by kernel_rfl) K1.run (by kernel_rfl) (by kernel_rfl) (by kernel_rfl) (by rfl) (by first | assumption | decide +kernel) (by decide +kernel) ⟨rfl, rfl, rfl, rfl, rfl, by decide +kernel⟩ ?hw ?hc
  case hw => w_witness2
  case hc =>
    refine L2.walkG (l := PySem.Challenge.rw_keptreadings_k01_errors_made) (n := 63) (k := 5) (x := "_law_script") rfl (by decide) (by kernel_rfl) ⟨rfl, by decide, by decide⟩ ?F
    intro w mg fa h Y G hmg0
    obtain ⟨K, KX, c, e⟩ := Y
    have hmg : mg ("law" : PySem.Str) = some (.ref fa) := by
      have e : (HandSHeadRun.topDef (OpenLaw.row PySem.Challenge.rw_keptreadings_k01_errors_made).prog 50).name = ("law" : PySem.Str) := by kernel_rfl
      rw [← e]
      exact hmg0
    obtain ⟨fd, hb, hF⟩ := K1.facts (P := (PySem.Challenge.rw_keptreadings_k01_errors_made).prog) (w := w) KX G hmg c e (by rfl) (by decide +kernel)
    exact ⟨K, fd, K1.sp_law K, KX, hb, fun H a ns hl hO hS => K1.scr_mk hO hS, hF⟩
